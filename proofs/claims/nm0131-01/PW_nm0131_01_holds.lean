import PyProof.Rows.All
import Wide.All
import OpenK.AllK
import KE.BytesK
import KE.KRevIter
import PyProof.InstStoreFacts
import PyProof.ExcBaseAll.Exception
import PyProof.ExcClass3
import KE.KIsNot
import PySem.Challenge.RW_nm0131_01
set_option genSizeOf false
set_option genCtorIdx false
set_option genInjectivity false
set_option bootstrap.genMatcherCode false
set_option tactic.hygienic false
set_option Elab.async false
set_option maxRecDepth 100000
set_option linter.unusedVariables false
namespace Mine
open PySem PySem.W PyProof.Rows PySem.Calls
open Sem (wp)
abbrev b0:= @List.length_append
abbrev b9:= @Nat.le_trans
abbrev c5:= @PySem.wpAny_bind
abbrev c6:= @List.length_cons
abbrev c7:= @Option.some.inj
abbrev c8:= @of_decide_eq_true
abbrev c9:= @decide_eq_false
abbrev d0:= @List.mem_cons
abbrev d6:= @List.contains_iff_mem
abbrev d7:= @List.append_nil
abbrev d8:= @Bool.and_eq_true_iff
abbrev d9:= @Option.isSome_iff_exists
abbrev e6:= @PySem.wpAny_pure
abbrev e8:= @List.length_singleton
abbrev e9:= @List.append_assoc
abbrev f3:= @Nat.le_refl
abbrev f5:= @PySem.Heap.get?_push_of_some
abbrev f6:= @Nat.le_add_right
abbrev f7:= @List.length_map
abbrev f9:= @decide_eq_true
abbrev g5:= @Nat.add_assoc
abbrev g6:= @Nat.zero_le
abbrev g7:= @List.getElem?_eq_getElem
abbrev g8:= @of_decide_eq_false
abbrev g9:= @Int.natCast_nonneg
abbrev i2:= @PySem.Heap.get?_push_size
abbrev i3:= @if_neg
abbrev i4:= @List.nodup_cons
abbrev i5:= @List.getElem?_eq_some_iff
abbrev i6:= @Nat.add_le_add_left
abbrev i7:= @if_pos
abbrev i8:= @Option.map_eq_some_iff
abbrev i9:= @Nat.succ_le_succ
abbrev j0:= @Nat.lt_of_le_of_lt
abbrev j1:= @Nat.le_succ_of_le
abbrev j2:= @List.cons.inj
abbrev j3:= @List.map_cons
abbrev j4:= @List.mem_singleton
abbrev j5:= @List.lookup_cons
abbrev j6:= @beq_eq_false_iff_ne
abbrev j7:= @Nat.add_sub_cancel_left
abbrev j8:= @Nat.le_of_eq
abbrev j9:= @List.all_eq_true
abbrev k8:= @List.mem_append_right
abbrev k9:= @List.size_toArray
abbrev l3:= @Nat.lt_of_lt_of_le
abbrev l4:= @Nat.mul_le_mul_left
abbrev l5:= @Nat.add_comm
abbrev l6:= @List.reverse_cons
abbrev l7:= @Option.map_eq_none_iff
abbrev l8:= @Bool.or_eq_true_iff
abbrev l9:= @beq_self_eq_true
abbrev m4:= @Bool.or_eq_false_iff
abbrev m5:= @List.mem_map
abbrev m6:= @PySem.builtinLookup_eq_fast
abbrev m7:= @Nat.le_add_left
abbrev m8:= @List.mem_append
abbrev m9:= @Nat.le_of_ble_eq_true
abbrev n7:= @List.getD_eq_getElem?_getD
abbrev n8:= @Int.ofNat_le
abbrev n9:= @Nat.lt_succ_of_lt
abbrev o5:= @decide_eq_true_iff
abbrev o6:= @PySem.Heap.lt_size
abbrev o7:= @List.count_le_count_cons
abbrev o8:= @Nat.eq_of_beq_eq_true
abbrev o9:= @List.drop_eq_nil_iff
abbrev p0:= @List.map_append
abbrev r4:= @PySem.Heap.get?_update_other
abbrev r5:= @Nat.lt_succ_self
abbrev r6:= @List.mem_map_of_mem
abbrev r7:= @List.length_reverse
abbrev r8:= @Int.not_lt
abbrev r9:= @Int.toNat_natCast
abbrev s9:= @Nat.ne_of_lt
abbrev t4:= @Nat.succ_add_eq_add_succ
abbrev t5:= @decide_eq_false_iff_not
abbrev t6:= @List.isEmpty_iff
abbrev t7:= @Nat.add_le_add
abbrev t8:= @Nat.not_lt
abbrev t9:= @PySem.typeLookup_type
abbrev u0:= @List.getElem?_eq_none_iff
abbrev u4:= @List.length_replicate
abbrev u5:= @Int.le_trans
abbrev u6:= @List.cons_append
abbrev u7:= @Int.ofNat_lt
abbrev u9:= @PySem.wpAny_holding
abbrev v4:= @Bool.and_false
abbrev v5:= @List.mem_of_getElem?
abbrev v7:= @List.getElem?_map
abbrev v8:= @Ne.symm
abbrev v9:= @Nat.lt_trans
abbrev w7:= @Nat.succ_pos
abbrev w8:= @List.not_mem_nil
abbrev w9:= @List.range'_succ
abbrev x5:= @List.contains_cons
abbrev x6:= @List.zip_cons_cons
abbrev x7:= @Nat.add_right_comm
abbrev x8:= @Int.toNat_lt
abbrev x9:= @List.map_map
abbrev y0:= @PySem.wpAny_specialOf
abbrev y1:= @List.nil_append
abbrev y2:= @PySem.wpAny_mono
abbrev y3:= @Nat.add_le_add_right
abbrev y4:= @List.eq_of_mem_replicate
abbrev y5:= @PySem.wpAny_newObj_type
abbrev y6:= @List.map_inj_left
abbrev y7:= @List.count_append
abbrev y8:= @Nat.lt_add_of_pos_right
abbrev y9:= @List.filterMap_cons
abbrev z0:= @List.any_eq_true
abbrev z4:= @List.length_drop
abbrev z5:= @List.mem_reverse
abbrev z6:= @List.take_left
abbrev z7:= @Bool.or_eq_true
abbrev z8:= @List.cons.injEq
abbrev z9:= @Option.ne_none_iff_exists'
abbrev A0:= @PySem.wpAny_truthy_bool
abbrev A1:= @List.length_range
abbrev A4:= @Bool.eq_false_iff
abbrev A5:= @beq_iff_eq
abbrev A6:= @PySem.F.excBase_Exception
abbrev A7:= @Option.isNone_iff_eq_none
abbrev A8:= @List.mem_append_left
abbrev A9:= @PySem.wpAny_of_eq
abbrev B0:= @PySem.wpAny_field
abbrev B1:= @List.mem_range
abbrev B2:= @Nat.le_of_lt
abbrev B3:= @Nat.add_lt_add_left
abbrev B4:= @Array.toList_append
abbrev B5:= @PySem.Heap.SameBut.update
abbrev B6:= @PySem.wpAny_standAt
abbrev B7:= @Prod.mk.injEq
abbrev B8:= @PySem.typeIs_str
abbrev B9:= @List.head?_drop
abbrev C0:= @List.filter_append
abbrev C4:= @List.take_of_length_le
abbrev C5:= @Int.fmod_nonneg_of_pos
abbrev C6:= @decide_eq_true_eq
abbrev C7:= @PySem.wpAny_loadPart_at
abbrev C8:= @PySem.Heap.get?_update_self
abbrev C9:= @Nat.zero_add
abbrev D0:= @PySem.Calls.Name_function_global
abbrev D1:= @PySem.call_meets
abbrev D2:= @PySem.wpAny_load
abbrev D3:= @PySem.entryFor_of_fast
abbrev D4:= @PySem.entryFor_of_tree
abbrev D5:= @List.filter_cons
abbrev D6:= @Nat.div_lt_of_lt_mul
abbrev D7:= @Nat.add_add_add_comm
abbrev D8:= @PySem.plainId_quiet
abbrev D9:= @List.getElem?_append_right
abbrev E2:= @Int.fdiv_eq_ediv_of_nonneg
abbrev E3:= @PySem.bm_if_false
abbrev E4:= @Option.some_ne_none
abbrev E5:= @PySem.wpAny_isSubtype_exc
abbrev E6:= @Bool.eq_iff_iff
abbrev E7:= @Decidable.byContradiction
abbrev E8:= @List.mem_filter
abbrev E9:= @List.length_nil
abbrev F0:= @PySem.W.looks_findIn
abbrev F3:= @Bool.false_ne_true
abbrev F4:= @PySem.Code.quiet_builtin
abbrev F5:= @List.getElem?_drop
abbrev F6:= @PySem.plainObj_exec_Assign_Attribute
abbrev F7:= @Nat.lt_of_lt_of_eq
abbrev F8:= @PyProof.Rows.wpAny_operate'
abbrev F9:= @Nat.sub_le
abbrev G1:= @List.drop_zero
abbrev G2:= @PySem.W.Fast.te10274390034422433532
abbrev G3:= @PySem.W.Fast.te14289696077712309145
abbrev G4:= @PySem.W.Fast.te14364793385576792824
abbrev G5:= @PySem.W.Fast.te14082659384304107361
abbrev G6:= @Nat.le_of_succ_le
abbrev G7:= @PySem.W.Fast.te1435165496053646825
abbrev G8:= @PySem.W.Fast.te4187177175401517315
abbrev G9:= @PySem.W.Fast.te5923862056798008813
abbrev H0:= @List.append_ne_nil_of_right_ne_nil
abbrev H3:= @PySem.Sem.wp_mono
abbrev H4:= @PySem.sizeLine_eq
abbrev H5:= @List.filter_eq_nil_iff
abbrev H6:= @List.drop_eq_nil_of_le
abbrev H7:= @Nat.lt_irrefl
abbrev H8:= @PySem.mem_of_lookup
abbrev H9:= @List.any_toArray
abbrev I0:= @PySem.wpAny_lookBehind
abbrev I1:= @PySem.F.slot_str_split
abbrev I2:= @List.map_reverse
abbrev I3:= @Bool.and_eq_true
abbrev I4:= @List.getElem?_toArray
abbrev I5:= @Nat.sub_eq_zero_of_le
abbrev I6:= @Int.toNat_le
abbrev I7:= @Int.not_le
abbrev I8:= @Nat.sub_le_sub_right
abbrev I9:= @List.forIn_cons
abbrev K0:= @Nat.ne_of_gt
abbrev K1:= @List.find?_cons
abbrev K2:= @List.range_eq_range'
abbrev K3:= @Bool.or_true
abbrev K4:= @List.append_toArray
abbrev K5:= @List.map_congr_left
abbrev K6:= @Int.toNat_of_nonneg
abbrev K7:= @List.tail_drop
abbrev K8:= @Int.lt_of_le_of_lt
abbrev K9:= @List.lookup_append
abbrev L6:= @List.any_cons
abbrev L7:= @List.drop_nil
theorem kz {A:Sort u} {B:Sort v} {P:A→B→Prop}:∀a b,P a b→P a b:=fun _ _ k=>k
@[elab_as_elim] theorem er {α:Sort u} {motive:α→Prop} {a b:α} (h:a=b) (x:motive b):motive a:=h▸x
theorem am {p q G:Prop} (h:p∧q) (k:p→q→G):G:=k h.1 h.2
theorem cQ {p q r G:Prop} (h:p∧q∧r) (k:p→q→r→G):G:=k h.1 h.2.1 h.2.2
theorem Ir {p q r s G:Prop} (h:p∧q∧r∧s) (k:p→q→r→s→G):G:=k h.1 h.2.1 h.2.2.1 h.2.2.2
theorem xY {p q r s t G:Prop} (h:p∧q∧r∧s∧t) (k:p→q→r→s→t→G):G:=k h.1 h.2.1 h.2.2.1 h.2.2.2.1 h.2.2.2.2
theorem ar {α:Sort _} {p:α→Prop} {G:Prop} (h:∃x,p x) (k:∀x,p x→G):G:=h.elim fun x h=>k x h
theorem aj {α:Sort _} {p q:α→Prop} {G:Prop} (h:∃x,p x∧q x) (k:∀x,p x→q x→G):G:=h.elim fun x h=>k x h.1 h.2
theorem eQ {α:Sort _} {p q r:α→Prop} {G:Prop} (h:∃x,p x∧q x∧r x) (k:∀x,p x→q x→r x→G):G:=h.elim fun x h=>k x h.1 h.2.1 h.2.2
theorem sO {α:Sort _} {p q r s:α→Prop} {G:Prop} (h:∃x,p x∧q x∧r x∧s x) (k:∀x,p x→q x→r x→s x→G):G:=h.elim fun x h=>k x h.1 h.2.1 h.2.2.1 h.2.2.2
theorem Ls {α:Sort _} {p q r s t:α→Prop} {G:Prop} (h:∃x,p x∧q x∧r x∧s x∧t x) (k:∀x,p x→q x→r x→s x→t x→G):G:=h.elim fun x h=>k x h.1 h.2.1 h.2.2.1 h.2.2.2.1 h.2.2.2.2
theorem cu {α:Sort _} {β:Sort _} {p:α→β→Prop} {G:Prop} (h:∃x y,p x y) (k:∀x y,p x y→G):G:=h.elim fun x h=>h.elim fun y h=>k x y h
theorem dU {α:Sort _} {β:Sort _} {p q:α→β→Prop} {G:Prop} (h:∃x y,p x y∧q x y) (k:∀x y,p x y→q x y→G):G:=h.elim fun x h=>h.elim fun y h=>k x y h.1 h.2
theorem aZ {α:Sort _} {β:Sort _} {p q r:α→β→Prop} {G:Prop} (h:∃x y,p x y∧q x y∧r x y) (k:∀x y,p x y→q x y→r x y→G):G:=h.elim fun x h=>h.elim fun y h=>k x y h.1 h.2.1 h.2.2
theorem mW {α:Sort _} {β:Sort _} {p q r s:α→β→Prop} {G:Prop} (h:∃x y,p x y∧q x y∧r x y∧s x y) (k:∀x y,p x y→q x y→r x y→s x y→G):G:=h.elim fun x h=>h.elim fun y h=>k x y h.1 h.2.1 h.2.2.1 h.2.2.2
theorem Iq {α:Sort _} {β:Sort _} {p q r s t:α→β→Prop} {G:Prop} (h:∃x y,p x y∧q x y∧r x y∧s x y∧t x y) (k:∀x y,p x y→q x y→r x y→s x y→t x y→G):G:=h.elim fun x h=>h.elim fun y h=>k x y h.1 h.2.1 h.2.2.1 h.2.2.2.1 h.2.2.2.2
theorem El {α:Sort _} {β:Sort _} {p q r s t a b:α→β→Prop} {G:Prop} (h:∃x y,p x y∧q x y∧r x y∧s x y∧t x y∧a x y∧b x y) (k:∀x y,p x y→q x y→r x y→s x y→t x y→a x y→b x y→G):G:=h.elim fun x h=>h.elim fun y h=>k x y h.1 h.2.1 h.2.2.1 h.2.2.2.1 h.2.2.2.2.1 h.2.2.2.2.2.1 h.2.2.2.2.2.2
theorem Ek {α:Sort _} {β:Sort _} {γ:Sort _} {p:α→β→γ→Prop} {G:Prop} (h:∃x y z,p x y z) (k:∀x y z,p x y z→G):G:=h.elim fun x h=>h.elim fun y h=>h.elim fun z h=>k x y z h
theorem sN {α:Sort _} {β:Sort _} {γ:Sort _} {p q:α→β→γ→Prop} {G:Prop} (h:∃x y z,p x y z∧q x y z) (k:∀x y z,p x y z→q x y z→G):G:=h.elim fun x h=>h.elim fun y h=>h.elim fun z h=>k x y z h.1 h.2
theorem eB {α:Sort _} {β:Sort _} {γ:Sort _} {p q r:α→β→γ→Prop} {G:Prop} (h:∃x y z,p x y z∧q x y z∧r x y z) (k:∀x y z,p x y z→q x y z→r x y z→G):G:=h.elim fun x h=>h.elim fun y h=>h.elim fun z h=>k x y z h.1 h.2.1 h.2.2
theorem eA {α:Sort _} {β:Sort _} {γ:Sort _} {p q r s:α→β→γ→Prop} {G:Prop} (h:∃x y z,p x y z∧q x y z∧r x y z∧s x y z) (k:∀x y z,p x y z→q x y z→r x y z→s x y z→G):G:=h.elim fun x h=>h.elim fun y h=>h.elim fun z h=>k x y z h.1 h.2.1 h.2.2.1 h.2.2.2
theorem jw {α:Sort _} {β:Sort _} {γ:Sort _} {p q r s t:α→β→γ→Prop} {G:Prop} (h:∃x y z,p x y z∧q x y z∧r x y z∧s x y z∧t x y z) (k:∀x y z,p x y z→q x y z→r x y z→s x y z→t x y z→G):G:=h.elim fun x h=>h.elim fun y h=>h.elim fun z h=>k x y z h.1 h.2.1 h.2.2.1 h.2.2.2.1 h.2.2.2.2
theorem MI {α:Sort _} {β:Sort _} {γ:Sort _} {δ:Sort _} {p:α→β→γ→δ→Prop} {G:Prop} (h:∃x y z u,p x y z u) (k:∀x y z u,p x y z u→G):G:=h.elim fun x h=>h.elim fun y h=>h.elim fun z h=>h.elim fun u h=>k x y z u h
theorem Ej {α:Sort _} {β:Sort _} {γ:Sort _} {δ:Sort _} {p q r:α→β→γ→δ→Prop} {G:Prop} (h:∃x y z u,p x y z u∧q x y z u∧r x y z u) (k:∀x y z u,p x y z u→q x y z u→r x y z u→G):G:=h.elim fun x h=>h.elim fun y h=>h.elim fun z h=>h.elim fun u h=>k x y z u h.1 h.2.1 h.2.2
theorem Lr {α:Sort _} {β:Sort _} {γ:Sort _} {δ:Sort _} {p q r s:α→β→γ→δ→Prop} {G:Prop} (h:∃x y z u,p x y z u∧q x y z u∧r x y z u∧s x y z u) (k:∀x y z u,p x y z u→q x y z u→r x y z u→s x y z u→G):G:=h.elim fun x h=>h.elim fun y h=>h.elim fun z h=>h.elim fun u h=>k x y z u h.1 h.2.1 h.2.2.1 h.2.2.2
theorem Ei {α:Sort _} {β:Sort _} {γ:Sort _} {δ:Sort _} {p q r s t a b:α→β→γ→δ→Prop} {G:Prop} (h:∃x y z u,p x y z u∧q x y z u∧r x y z u∧s x y z u∧t x y z u∧a x y z u∧b x y z u) (k:∀x y z u,p x y z u→q x y z u→r x y z u→s x y z u→t x y z u→a x y z u→b x y z u→G):G:=h.elim fun x h=>h.elim fun y h=>h.elim fun z h=>h.elim fun u h=>k x y z u h.1 h.2.1 h.2.2.1 h.2.2.2.1 h.2.2.2.2.1 h.2.2.2.2.2.1 h.2.2.2.2.2.2
theorem MH {α:Sort _} {β:Sort _} {γ:Sort _} {δ:Sort _} {ε:Sort _} {p:α→β→γ→δ→ε→Prop} {G:Prop} (h:∃x y z u v,p x y z u v) (k:∀x y z u v,p x y z u v→G):G:=h.elim fun x h=>h.elim fun y h=>h.elim fun z h=>h.elim fun u h=>h.elim fun v h=>k x y z u v h
theorem Eh {α:Sort _} {β:Sort _} {γ:Sort _} {δ:Sort _} {ε:Sort _} {p q:α→β→γ→δ→ε→Prop} {G:Prop} (h:∃x y z u v,p x y z u v∧q x y z u v) (k:∀x y z u v,p x y z u v→q x y z u v→G):G:=h.elim fun x h=>h.elim fun y h=>h.elim fun z h=>h.elim fun u h=>h.elim fun v h=>k x y z u v h.1 h.2
theorem av {G:Prop} (k:∀P:Prop,(G→P)→P):G:=k G id
set_option backward.match.sparseCases false in
noncomputable def zQ:Code→Bool
 |.builtin id _=>Builtin.Bytes.decodersThatHold.contains id
 |_=>false
def Cl (Γ:Ctx):Prop:=zQ Γ.code=false∧∀x∈Γ.below,zQ x.1=false
def ClB (Γ:Ctx):Prop:=∀x∈Γ.below,zQ x.1=false
def wpG {α:Type} (M:Model) (A:Around) (t:Sem α) (Q:α→Shared→Prop) (E:Value→Shared→Prop) (s:Shared):Prop:=
 ∀Γ p,Γ.In A→Cl Γ→wp M Γ t (fun a _ s'=>Q a s') (fun e _ s'=>E e s') p s
def bC (M:Model) (A:Around) (c:Code) (R:Result→Shared→Prop) (s:Shared):Prop:=
 ∀Γ p,Γ.code=c→Γ.Below A→ClB Γ→wpCode M Γ R p s
section
variable {α β:Type} {M:Model} {A:Around} {E E':Value→Shared→Prop} {s:Shared}
theorem wpG.any (h:wpAny M A t Q E s):wpG M A t Q E s:=fun Γ p N4 _=>h Γ p N4
theorem bC.any (h:codeAny M A c R s):bC M A c R s:=fun Γ p hc N4 _=>h Γ p hc N4
theorem ac (h:Q a s):wpG M A (pure a) Q E s:=fun _ _ _ _=>h
theorem aJ (h:wpG M A t Q E s) (hQ:∀a s,Q a s→Q' a s) (hE:∀e s,E e s→E' e s):wpG M A t Q' E' s:=
 fun Γ p N4 hc=>H3 M Γ t (fun a _ s=>hQ a s) (fun e _ s=>hE e s) p s (h Γ p N4 hc)
theorem aa (h:wpG M A m (fun a s'=>wpG M A (f a) Q E s') E s):wpG M A (m>>=f) Q E s:=fun Γ p N4 hc=>by
 rw[Sem.wp_bind'];exact H3 M Γ m (fun a p' s' h'=>h' Γ p' N4 hc) (fun _ _ _ h'=>h') p s (h Γ p N4 hc)
theorem kJ (h:wpG M A m Q (fun e s'=>wpG M A (k e) Q E s') s):wpG M A (tryCatch m k) Q E s:=fun Γ p N4 hc=>by
 rw[Sem.wp_tryCatch'];exact H3 M Γ m (fun _ _ _ h'=>h') (fun e p' s' h'=>h' Γ p' N4 hc) p s (h Γ p N4 hc)
theorem bb (h:wpG M A m Q (fun e s'=>wpG M A (k e) (fun _ s''=>E e s'') E s') s):wpG M A (m.onRaise k) Q E s:=fun Γ p N4 hc=>by
 rw[Sem.wp_onRaise];exact H3 M Γ m (fun _ _ _ h'=>h') (fun e p' s' h'=>h' Γ p' N4 hc) p s (h Γ p N4 hc)
theorem iG {m:Sem α} {Q:Except Value α→Shared→Prop} (h:wpG M A m (fun a=>Q (.ok a)) (fun e=>Q (.error e)) s):wpG M A m.attempt Q E s:=fun Γ p N4 hc=>by
 rw[Sem.wp_attempt];exact h Γ p N4 hc
theorem ay (h:wpG M A m Q E s):wpG M A (holding vs m) Q E s:=fun Γ p N4 hc=>by
 rw[Sem.wp_holding];exact h Γ p N4 hc
theorem aR (h:Q () s):wpG M A (standAt pos) Q E s:=fun _ _ _ _=>h
theorem nO (h:Q () s):wpG M A (rule tag) Q E s:=fun _ _ _ _=>h
theorem lq (h:Q () s):wpG M A point Q E s:=fun _ _ _ _=>h
theorem Cl.enter (h:Cl Γ) (c:Code) (hd:Option Value) (p:Pos):ClB (Γ.enter c hd p):=by
 intro x hx;rcases d0.mp (show x∈(Γ.code,p)::Γ.below from hx) with rfl|hx
 ·exact h.1
 ·exact h.2 x hx
theorem jS
  (hc:bC M (A.mark h) c (fun r s'=>match r with|.ok f=>Q f s'|.error e=>E e s') s) (hnb:h≠some byPass):wpG M A (run c h) Q E s:=
 fun Γ p N4 hcl=>by rw[Sem.wp_run];exact hc _ p rfl (N4.enter c h p hnb) (hcl.enter c h p)
theorem rO
  (hc:bC M A c (fun r s'=>match r with|.ok (.ret v)=>Q v s'|.ok _=>False|.error e=>E e s') s):wpG M A (runValue c) Q E s:=
 fun Γ p N4 hcl=>by rw[Sem.wp_runValue];exact hc _ p rfl (N4.enter c none p (by intro x;cases x)) (hcl.enter c none p)
theorem bW
  (hc:bC M A (.call f ⟨pos,kw⟩) (fun r s'=>match r with|.ok (.ret v)=>Q v s'|.ok _=>False|.error e=>E e s') s):wpG M A (call f pos kw) Q E s:=rO hc
theorem bF (h:bC M A c R s) (hR:∀r s,R r s→R' r s):bC M A c R' s:=
 fun Γ p hc N4 hcl=>wpCode_mono hR (h Γ p hc N4 hcl)
theorem aI (hd:zQ c=false)
  (h:wpG M (A.under c) (M.den c) (fun fin s'=>match fin with|.done f=>R (.ok f) s'|.again c'=>c'.quiet=true∧bC M A c' R s') (fun e s'=>R (.error e) s') s):bC M A c R s:=fun Γ p hc N4 hcl=>by
 rw[wpCode_iff_wp,hc];refine H3 M Γ _ (fun fin p' s' h'=>?_) (fun _ _ _ h'=>h') p s (h Γ p (hc▸N4.in) ⟨hc▸hd,hcl⟩)
 induction fin with
 |done f=>exact h'
 |again c'=>exact⟨h'.1,h'.2 (Γ.goto c') p' rfl (N4.goto c') hcl⟩
theorem me (h:Q () s):wpG M A (release vs keep) Q E s:=wpG.any (wpAny_release' h)
theorem yb
  (h:∀st:List (Code×Pos),(∀g,A.guards=some g→guardsOf st=g)→(∀x∈st,zQ x.1=false)→Q st s):wpG M A stack Q E s:=fun Γ p N4 hcl=>by
 refine h _ (fun g hg=>by rw[guardsOf_cons];exact N4.2.2.2.1 g hg) fun x hx=>?_;rcases d0.mp hx with rfl|hx
 ·exact hcl.1
 ·exact hcl.2 x hx
end
section
open PySem PySem.Spec PySem.W PyProof.Rows PySem.Calls
noncomputable abbrev Nc:PySem.Ctx:=⟨.builtin "claim.caller" {},none,none,[],none⟩
theorem zy:Cl Nc:=⟨by decide+kernel,fun _ h=>nomatch h⟩
theorem rV {prog:Program} {w:World} {t:Sem Fin} {s:Shared} {R:Result→Shared→Prop} (hreg:s.asleep)
  (h:wpG (model prog w) callerA t (fun fin s'=>∃f,fin= .done f∧R (.ok f) s'∧leftWithCleanup s'.gens=false) (fun e s'=>R (.error e) s'∧leftWithCleanup s'.gens=false) s):
  ∃n r s' s'',runN (denote table) prog w n s ⟨t,.builtin "claim.caller" {},default,[]⟩= .halted (outcomeOf r) s'∧
   schedN (denote table) prog w n (.single s ⟨t,.builtin "claim.caller" {},default,[]⟩)= .halted (outcomeOf r) s'∧s'.forget=s''.forget∧R r s'':=by
 refine av fun gP gO=>?_;have hw:wp (model prog w) Nc t (Sem.finPost (model prog w) Nc (fun r s'=>R r s'∧leftWithCleanup s'.gens=false)) (fun e _ s'=>R (.error e) s'∧leftWithCleanup s'.gens=false) default s:=by
  refine H3 _ _ t (fun fin p' s' h'=>?_) (fun _ _ _ h'=>h') default s (h _ default caller_in zy);refine aj h' fun f z1_ hf=>?_;subst z1_;exact hf
 refine Lr (wp_halts_full (M:=model prog w) (R:=R) hreg hw) fun n r M0 M8 hs hn hfo hR=>?_;refine gO ?_;exact⟨n,r,M8,M0,hn,hs,hfo,hR⟩
section
variable {c:ClaimW} {tree:List Value→Sem Fin} {w:World} {s:Shared}
theorem zA {free:Addr→Prop} {gens:Prop} {kept:Heap→Prop} (hz:s.asleep) (hgens:s.gens= #[])
  (hspec:∀args,c.pre args=true→WData.layableAll args=true→∀ord:List DictEntry→List DictEntry,(∀l,(ord l).Perm l)→
   ∃vs M0,layAllW c.records (classAt s.heap) w.params ord args s=some (vs,M0)∧
    wpG (model c.prog w) callerA (tree vs) (fun fin s'=>∃f,fin= .done f∧(c.Ends s args vs M0 (.ok f) s'∧s'.os=s.os∧kept s'.heap)∧AllBare s'.gens)
     (fun e s'=>(c.Ends s args vs M0 (.error e) s'∧s'.os=s.os∧kept s'.heap)∧AllBare s'.gens) M0):
  c.CallFrom (fun vs=>⟨tree vs,.builtin "claim.caller" {},default,[]⟩) w free gens kept s:=by
 intro args hpre hlay ord hord;refine av fun gP gO=>?_;refine dU (hspec args hpre hlay ord hord) fun vs M0 hlaid hcode=>?_;have hal:=layAllW_rest _ _ _ hlaid;obtain⟨k,r,s',s'',hrun,hsched,hfo,hcase,hos,hkp⟩:=rV (R:=fun r s'=>c.Ends s args vs M0 r s'∧s'.os=s.os∧kept s'.heap) (Shared.asleep_of_life hal.2.2.2 hz)
  (aJ hcode (fun fin s' ⟨f,e,h,b⟩=>⟨f,e,h,leftWithCleanup_false_of_bare b⟩) fun e s' ⟨h,b⟩=>⟨h,leftWithCleanup_false_of_bare b⟩)
 refine xY (Shared.forget_eq hfo) fun eh _ _ eo _=>?_;replace hcase:=hcase.congr eh;replace hkp:kept s'.heap:=by rw[eh];exact hkp
 replace hos:s'.os=s.os:=eo.trans hos;have hlife:s'.heap.life=s.heap.life:=(runN_life _ _ _ hrun).trans hal.2.2.2;refine gO ⟨vs,M0,hlaid,k,_,s',hsched,?_,(fun _ i x hx=>by rw[hgens] at hx;simp at hx),hkp,by rw[hlife],Shared.rest_eq hos⟩;rcases hcase with ⟨v,rfl,d1,d2,d3,d4,d5⟩|⟨e,ob,cls,rfl,d1,d2,d3,d4,d5⟩
 ·exact .inl ⟨v,rfl,d1,d2,d3,fun b o y _=>d4 b o y,d5⟩
 ·exact .inr ⟨e,ob,cls,rfl,d1,d2,d3,d4,fun b o y _=>d5 b o y⟩
end
abbrev vv (q:Program) (eD:List PySem.Str) (XP:(PySem.Str→Option Value)→Heap→Prop) (YP:World→Heap→Prop) (r:RowW) (d:DefRec) (kwd:List (PySem.Str×Expr)):Prop:=
 ∀(w:World) (MW M0:Shared) (mg mb:PySem.Str→Option Value),Ground q eD r.records XP w MW mg mb M0.heap→YP w M0.heap→∀(a:Addr) (o:Obj) (pm cd doc dV kV:Value),M0.heap.get? a=some o→
  o.data= .func {docDef d.name d.params d.body d.scope pm cd doc with defaults:=dV,kwdefaults:=kV}→M0.heap.CodeRec cd d.name→Dflts mg M0.heap d.params kwd dV kV→mg d.name=some (.ref a)→M0.gens= #[]→
  ∀(args:List WData) (vals:List Value) (as:List Addr),r.claim.pre args=true→WData.layableAll args=true→ReadsAllW r.records (classAt MW.heap) M0.heap vals args as→WellAll w.params M0.heap vals args→(∀a∈as,(a==sysModules)=false)→
   wpG (model r.prog w) callerA (PySem.call (.ref a) vals) (fun v s'=>GoodWG r.claim (classAt MW.heap) (ExcName.means MW.heap) args M0 (.ok (.ret v)) s')
    (fun e s'=>GoodWG r.claim (classAt MW.heap) (ExcName.means MW.heap) args M0 (.error e) s') M0
theorem JM {r:OpenRow} {q:Program} {eD:List PySem.Str} {Xt:Shared→Bool} {XP:(PySem.Str→Option Value)→Heap→Prop} {α:Type} {Yf:Shared→α} {Ya:World→α} {YP:World→Heap→Prop} {d:DefRec} {kwd:List (PySem.Str×Expr)} {N:Nat}
  (left:LeftO r.prog q eD Xt Yf Ya N) (hY:∀w s,Yf s=Ya w→YP w s.heap) (hYk:∀w h h',YP w h→(∀b o,h.get? b=some o→h'.get? b=some o)→YP w h')
  (hX:∀s,Xt s=true→XP (s.heap.nsMap mainGlobals) s.heap) (hXk:∀mg h h',XP mg h→(∀b o,h.get? b=some o→h'.get? b=some o)→XP mg h')
  (hdef:defOf q r.name=some (d,kwd)) (hp:r.prog.theDef r.name=some (d.params,d.body,d.scope)) (hk:kwWritten? d.params.kwonlyargs d.params.kw_defaults=some kwd) (hRf:∀s,Xt s=true→RecFacts r.records s.heap) (hwr:(!r.writes||r.records.isEmpty)=true)
  (k1:r.wellSaid=true) (ok:(chainsOk q&&opensWell r.prog&&(frees r.toRowW&&r.within.isEmpty))=true) (hb:r.prog.bare) (hw:r.toRowW.promised)
  (call:vv q eD XP YP r.toRowW d kwd):r.Holds:=by
 refine av fun gP gO=>?_;refine am (d8.mp ok) fun ok' k5=>?_;refine am (d8.mp ok') fun hch o1=>?_;refine am (d8.mp k5) fun k5 k6=>?_;refine xY (frees_parts k5) fun hsame hu ha hap hm=>?_;refine gO ⟨k1,hw,⟨hb,o1,by show r.toRowW.makers.map _=[];rw[hm];rfl⟩,hw.witness,fun w=>⟨(left.behind hX hch w).1,fun s' hs'=>?_⟩⟩;refine av fun gP gO=>?_;obtain⟨MW,hf,hg0,s,hT,hz,hgens,hg,G00,y⟩:=(left.behind (XP:=fun mg h=>XP mg h∧RecFacts r.records h) (fun s hs=>⟨hX s hs,hRf s hs⟩) hch w).2 s' hs';have G0:Ground q eD [] XP w s (s.heap.nsMap mainGlobals) (s.heap.nsMap builtinsNs) s.heap:=⟨G00.T,G00.B,G00.D,G00.TE,G00.TD,G00.W,G00.X.1,G00.cls,G00.has,G00.apart,G00.once,G00.K⟩;have RF:=G00.X.2;refine gO ⟨MW,hf,hg0,s,hT,fun n hn=>?_,RF.1,RF.2.1,?_⟩
 ·obtain rfl:n=r.name:=by split at hn<;>simp_all
  exact pinned_of_view hg G0 hdef hp hk
 have hgens:s.gens= #[]:=Array.eq_empty_of_size_eq_zero (A5.mp hgens);have G:Ground q eD r.records XP w s _ _ s.heap:=RF.ground G0;refine zA (c:=r.toRowW.claim) hz hgens fun args hpre hlay ord hord=>av fun gP gO=>?_;obtain⟨⟨vs,M0⟩,hlaid⟩:=d9.mp (layAllW_isSome (P:=w.params) (ord:=ord) G.has args r.toRowW.args s (pre_splitW hpre).1);have keeps:=layAllW_keeps _ _ _ hlaid;have hal:=layAllW_rest _ _ _ hlaid;refine eQ (reads_layAllW hord _ _ _ hlaid hlay M0.heap (fun _ _ e=>e)) fun as hrd hin hold=>?_;have L:Laid r.toRowW.records w s M0 args vs as:=⟨⟨ord,hord,hlaid⟩,hrd,hin,hold,keeps,hal.1.trans hgens,hal.2.2.1⟩;have NW:=G.keeps hXk keeps;obtain⟨a,o,pm,cd,doc,dV,kV,h1,h2,h3,h4,h5⟩:=NW.fn hdef;have h:=call w s M0 _ _ NW (hYk _ _ _ (hY w s y) keeps) a o pm cd doc dV kV h2 h3 h4 h5 (defOf_name hdef▸h1) L.gens args vs as hpre hlay L.reads L.well (L.low G.low);have hi:=ident_freeW hu ha hap;have hwi:r.toRowW.claim.within=[]:=t6.mp k6;have fin:∀res s',GoodWG r.toRowW.claim (classAt s.heap) (ExcName.means s.heap) args M0 res s'→(r.toRowW.claim.Ends s args vs M0 res s'∧s'.os=s.os∧(r.writes=true→namesKept r.toRowW.claim.prog r.keeps s.heap s'.heap∧∀x∈r.toRowW.claim.records,∀a,classAt s.heap x.1=some a→recordClass s'.heap a x.1 (x.2.map (·.1))=true))∧AllBare s'.gens:=fun res s' g=>
  have z:=g.laid (c:=r.toRowW.claim) hsame hwi hi L
  ⟨⟨z.1,z.2.1,fun q=>⟨namesKept_of hT hg _ keeps g.2.1.old,noTable hwr q⟩⟩,z.2.2⟩
 refine gO ⟨vs,M0,hlaid,aa (wpG.any (wpAny_nsGet NW.T.g ?_))⟩;exact h1▸(aa (aJ h (fun v s' g=>ac ⟨_,rfl,fin _ _ g⟩) fun e s' g=>fin _ _ g))
end
inductive V where
 |unb|none|bool (b:Bool)|int (i:Int)|str (s:List Nat)|bytes (b:List Nat)
 |tup (xs:List V)|lst (xs:List V)
 |lref (a:Nat)|bref (a:Nat)
 |obj (c d:Nat)|fobj (c:Nat) (fs:Nat→V)
 |exc (row col:Int)
inductive AObj where
 |list (xs:List V)|barr (b:List Nat)|dict (fs:Nat→V)
abbrev Sto:=Nat→Option AObj
noncomputable def upd (m:Nat→V) (i:Nat) (v:V):Nat→V:=fun j=>if j=i then v else m j
noncomputable def Sto.put (σ:Sto) (a:Nat) (o:AObj):Sto:=fun b=>if b=a then some o else σ b
noncomputable def Sto.del (σ:Sto) (a:Nat):Sto:=fun b=>if b=a then Option.none else σ b
theorem cV (m:Nat→V) (i:Nat) (v:V):upd m i v i=v:=by simp[upd]
theorem dD (m:Nat→V) (v:V) (h:j≠i):upd m i v j=m j:=by simp[upd,h]
theorem ai (σ:Sto) (a:Nat) (o:AObj):σ.put a o a=some o:=by simp[Sto.put]
theorem aA (σ:Sto) (o:AObj) (h:b≠a):σ.put a o b=σ b:=by simp[Sto.put,h]
noncomputable def aq:Nat→PySem.Str
 |0=>"text"|1=>"at"|2=>"row"|3=>"column"|4=>"found"
 |5=>"sort"|6=>"value"|7=>"items"|8=>"why"|_=>"?"
structure Bs where
 prog:Program
 w:World
 K:Frag
 base:Heap
 ca:Nat→Addr
 mg:PySem.Str→Option Value
 mb:PySem.Str→Option Value
 inK:K.In base
 g:base.Ns mainGlobals mg
 b:base.Ns builtinsNs mb
 nolimit:base.NoLimit
 builtins:∀x:PySem.Str,x≠"__name__"→mb x=bootBuiltins x
noncomputable def ah:Nat:=2^20
noncomputable abbrev uP (vs:List Value) (n:Nat):Obj:={cls:=.type "tuple",data:=.seq vs.toArray n}
noncomputable abbrev lstO (vs:List Value) (n:Nat):Obj:={cls:=.type "list",data:=.seq vs.toArray n}
mutual
inductive Rv (B:Bs) (P:Addr→Prop) (h:Heap):Value→V→Prop
 |unb (v:Value):Rv B P h v .unb
 |none:Rv B P h .none .none
 |bool (b:Bool):Rv B P h (.bool b) (.bool b)
 |int (i:Int) (t:Tok):Rv B P h (.int i t) (.int i)
 |str (x:PySem.Str) (t:Tok) {l:List Nat}:x.cps.toList=l→l.length≤ah→Rv B P h (.str x t) (.str l)
 |bytes (b:Array UInt8) (t:Tok) {l:List Nat}:b.toList.map (·.toNat)=l→Rv B P h (.bytes b t) (.bytes l)
 |tup {a:Addr} {vs:List Value} {n:Nat} {ds:List V}:h.get? a=some (uP vs n)→P a→Rvs B P h vs ds→ds.length≤ah→Rv B P h (.ref a) (.tup ds)
 |lst {a:Addr} {vs:List Value} {n:Nat} {ds:List V}:h.get? a=some (lstO vs n)→P a→Rvs B P h vs ds→ds.length≤ah→Rv B P h (.ref a) (.lst ds)
 |lref (a:Addr):Rv B P h (.ref a) (.lref a)
 |bref (a:Addr):Rv B P h (.ref a) (.bref a)
 |obj {x d:Addr} {o:Obj} {c:Nat}:c<3→h.get? x=some o→o.cls= .ref (B.ca c)→o.dict=some d→o.data= .plain→P x→Rv B P h (.ref x) (.obj c d)
 |fobj {x d:Addr} {o:Obj} {c:Nat} {mm:PySem.Str→Option Value} {fs:Nat→V} {vals:Nat→Value}:c<3→h.get? x=some o→o.cls= .ref (B.ca c)→o.dict=some d→o.data= .plain→P x→P d→
   h.Ns d mm→(∀i,(∃z,fs i=z∧z≠ .unb)→mm (aq i)=some (vals i))→(∀i,Rv B P h (vals i) (fs i))→Rv B P h (.ref x) (.fobj c fs)
 |exc {e d:Addr} {o:Obj} {mm:PySem.Str→Option Value} {row col:Int} {t u:Tok}:h.get? e=some o→o.cls= .ref (B.ca 3)→o.dict=some d→(∃vs,o.data= .fields vs)→P e→P d→
   h.Ns d mm→mm (aq 2)=some (.int row t)→mm (aq 3)=some (.int col u)→Rv B P h (.ref e) (.exc row col)
inductive Rvs (B:Bs) (P:Addr→Prop) (h:Heap):List Value→List V→Prop
 |nil:Rvs B P h [] []
 |cons {v:Value} {vs:List Value} {d:V} {ds:List V}:Rv B P h v d→Rvs B P h vs ds→Rvs B P h (v::vs) (d::ds)
end
theorem noS {α:Type} {b:α} {C:Prop} (h:(none:Option α)=some b):C:=by cases h
theorem noT {C:Prop} (h:false=true):C:=by cases h
def Rv.Is (B:Bs) (P:Addr→Prop) (h:Heap) (v:Value):V→Prop
 |.unb=>True
 |.none=>v= .none
 |.bool b=>v= .bool b
 |.int i=>∃t,v= .int i t
 |.str l=>∃x t,v= .str x t∧x.cps.toList=l∧l.length≤ah
 |.bytes l=>∃b t,v= .bytes b t∧b.toList.map (·.toNat)=l
 |.tup ds=>∃a vs n,v= .ref a∧h.get? a=some (uP vs n)∧P a∧Rvs B P h vs ds∧ds.length≤ah
 |.lst ds=>∃a vs n,v= .ref a∧h.get? a=some (lstO vs n)∧P a∧Rvs B P h vs ds∧ds.length≤ah
 |.lref a=>v= .ref a
 |.bref a=>v= .ref a
 |.obj c d=>∃x o,v= .ref x∧c<3∧h.get? x=some o∧o.cls= .ref (B.ca c)∧o.dict=some d∧o.data= .plain∧P x
 |.fobj c fs=>∃(x d:Addr) (o:Obj) (mm:PySem.Str→Option Value) (vals:Nat→Value),v= .ref x∧c<3∧h.get? x=some o∧o.cls= .ref (B.ca c)∧o.dict=some d∧o.data= .plain∧P x∧P d∧h.Ns d mm∧(∀i,(∃z,fs i=z∧z≠ .unb)→mm (aq i)=some (vals i))∧∀i,Rv B P h (vals i) (fs i)
 |.exc row col=>∃(e d:Addr) (o:Obj) (mm:PySem.Str→Option Value) (t u:Tok),v= .ref e∧h.get? e=some o∧o.cls= .ref (B.ca 3)∧o.dict=some d∧(∃vs,o.data= .fields vs)∧P e∧P d∧h.Ns d mm∧mm (aq 2)=some (.int row t)∧mm (aq 3)=some (.int col u)
theorem Rv.inv (r:Rv B P h v d):Rv.Is B P h v d:=by
 cases r
 ·exact trivial
 ·exact rfl
 ·exact rfl
 ·exact⟨_,rfl⟩
 ·exact⟨_,_,rfl,‹_›,‹_›⟩
 ·exact⟨_,_,rfl,‹_›⟩
 ·exact⟨_,_,_,rfl,‹_›,‹_›,‹_›,‹_›⟩
 ·exact⟨_,_,_,rfl,‹_›,‹_›,‹_›,‹_›⟩
 ·exact rfl
 ·exact rfl
 ·exact⟨_,_,rfl,‹_›,‹_›,‹_›,‹_›,‹_›,‹_›⟩
 ·exact⟨_,_,_,_,_,rfl,‹_›,‹_›,‹_›,‹_›,‹_›,‹_›,‹_›,‹_›,‹_›,‹_›⟩
 ·exact⟨_,_,_,_,_,_,rfl,‹_›,‹_›,‹_›,‹_›,‹_›,‹_›,‹_›,‹_›,‹_›⟩
structure Ev (W F:Addr→Prop) (h h':Heap):Prop where
 same:∀a o,h.get? a=some o→¬W a→¬F a→h'.get? a=some o
 slots:∀a o,h.get? a=some o→¬W a→F a→∃sl,h'.get? a=some {o with slots:=sl}
 alive:∀a,(h.get? a).isSome=true→(h'.get? a).isSome=true
theorem Ev.refl (W F:Addr→Prop) (h:Heap):Ev W F h h:=⟨fun _ _ e _ _=>e,fun _ o e _ _=>⟨o.slots,e⟩,fun _ e=>e⟩
theorem Ev.of_keeps (k:∀b o,h.get? b=some o→h'.get? b=some o):Ev W F h h':=
 ⟨fun a o e _ _=>k a o e,fun a o e _ _=>⟨o.slots,k a o e⟩,fun a e=>by
  obtain⟨o,ho⟩:=d9.mp e;rw[k a o ho];rfl⟩
theorem Ev.push (W F:Addr→Prop) (h:Heap) (o:Obj):Ev W F h (h.push o):=.of_keeps fun _ _ e=>f5 _ e
theorem Ev.any (x:Ev W F h h') (a:Addr) (o:Obj) (e:h.get? a=some o) (w:¬W a):∃sl,h'.get? a=some {o with slots:=sl}:=by
 by_cases f:F a
 ·exact x.slots a o e w f
 ·exact⟨o.slots,x.same a o e w f⟩
theorem Ev.trans (x:Ev NU O8 h MO) (y:Ev Oz O7 MO MY)
  (hW:∀a,(h.get? a).isSome=true→Oz a→NU a) (hF:∀a,(h.get? a).isSome=true→O7 a→O8 a∨NU a):Ev NU O8 h MY:=by
 refine⟨fun a o e w f=>?_,fun a o e w f=>?_,fun a e=>y.alive a (x.alive a e)⟩
 ·have q:(h.get? a).isSome=true:=by rw[e];rfl
  exact y.same a o (x.same a o e w f) (fun z=>w (hW a q z)) fun z=>(hF a q z).elim f w
 ·have q:(h.get? a).isSome=true:=by rw[e];rfl
  refine ar (x.slots a o e w f) fun sl N6=>?_;by_cases g:O7 a
  ·refine ar (y.slots a _ N6 (fun z=>w (hW a q z)) g) fun sl' N7=>?_;exact⟨sl',N7⟩
  ·exact⟨sl,y.same a _ N6 (fun z=>w (hW a q z)) g⟩
theorem Ev.sameBut (hs:Heap.SameBut a h h') (h0:h.get? a=some o) (h1:h'.get? a=some o') (hw:W a):Ev W F h h':=by
 refine⟨fun b o e w _=>?_,fun b o e w _=>?_,fun b e=>?_⟩
 ·have:b≠a:=fun z=>w (z▸hw);exact(hs.2 b this).trans e
 ·have:b≠a:=fun z=>w (z▸hw);exact⟨o.slots,(hs.2 b this).trans e⟩
 ·by_cases q:b=a
  ·exact er q (er h1 rfl)
  ·exact er (hs.2 b q) e
theorem Ev.mono (x:Ev W F h h') (hW:∀a,(h.get? a).isSome=true→W a→W' a):Ev W' F h h':=
 ⟨fun a o e w f=>x.same a o e (fun z=>w (hW a (by rw[e];rfl) z)) f,fun a o e w f=>x.slots a o e (fun z=>w (hW a (by rw[e];rfl) z)) f,x.alive⟩
theorem jI {h h':Heap} {d:Addr} {mm:PySem.Str→Option Value} (x:h.Ns d mm) (k:∀o,h.get? d=some o→h'.get? d=some o):h'.Ns d mm:=
 let ⟨o,es,ep,ho,r⟩:=x;⟨o,es,ep,k o ho,r⟩
theorem dO {h:Heap} {d:Addr} {mm:PySem.Str→Option Value} (x:h.Ns d mm):(h.get? d).isSome=true:=by
 obtain⟨o,_,_,ho,_⟩:=x;rw[ho];rfl
theorem Rvs.ind {B:Bs} {P:Addr→Prop} {h:Heap} {M:List Value→List V→Prop} (n:M [] []) (c:∀{v:Value} {vs:List Value} {d:V} {ds:List V},Rv B P h v d→Rvs B P h vs ds→M vs ds→M (v::vs) (d::ds)) {vs:List Value} {ds:List V} (r:Rvs B P h vs ds):M vs ds:=
 Rvs.rec (motive_1:=fun _ _ _=>True) (motive_2:=fun vs ds _=>M vs ds) (fun _=>trivial) trivial (fun _=>trivial) (fun _ _=>trivial) (fun _ _ _ _ _=>trivial) (fun _ _ _ _=>trivial) (fun _ _ _ _ _=>trivial) (fun _ _ _ _ _=>trivial) (fun _=>trivial) (fun _=>trivial)
  (fun _ _ _ _ _ _=>trivial) (fun _ _ _ _ _ _ _ _ _ _ _=>trivial) (fun _ _ _ _ _ _ _ _ _=>trivial) n (fun a r _ ih=>c a r ih) r
theorem jW {P P':Addr→Prop} {h h':Heap} (k:∀a o,P a→h.get? a=some o→P' a∧h'.get? a=some o) {q:Addr} {mm:PySem.Str→Option Value} (p:P q) (n:h.Ns q mm):P' q∧h'.Ns q mm:=
 let ⟨o,es,ep,ho,r⟩:=n;⟨(k _ _ p ho).1,o,es,ep,(k _ _ p ho).2,r⟩
theorem Rv.keep {B:Bs} {P P':Addr→Prop} {h h':Heap} (k:∀a o,P a→h.get? a=some o→P' a∧h'.get? a=some o) {v:Value} {d:V} (r:Rv B P h v d):Rv B P' h' v d:=
 Rv.rec (motive_1:=fun v d _=>Rv B P' h' v d) (motive_2:=fun vs ds _=>Rvs B P' h' vs ds) .unb .none .bool .int .str .bytes
  (fun e p _ l r=>.tup (k _ _ p e).2 (k _ _ p e).1 r l) (fun e p _ l r=>.lst (k _ _ p e).2 (k _ _ p e).1 r l) .lref .bref
  (fun lt e c d l p=>.obj lt (k _ _ p e).2 c d l (k _ _ p e).1)
  (fun lt e c d l p q n f _ r=>.fobj lt (k _ _ p e).2 c d l (k _ _ p e).1 (jW k q n).1 (jW k q n).2 f r)
  (fun e c d l p q n r s=>.exc (k _ _ p e).2 c d l (k _ _ p e).1 (jW k q n).1 (jW k q n).2 r s) .nil (fun _ _ a r=>.cons a r) r
theorem Rvs.keep {B:Bs} {P P':Addr→Prop} {h h':Heap} (k:∀a o,P a→h.get? a=some o→P' a∧h'.get? a=some o) {vs:List Value} {ds:List V} (r:Rvs B P h vs ds):Rvs B P' h' vs ds:=
 r.ind .nil fun a _ r=>.cons (a.keep k) r
theorem Rvs.length {B:Bs} {P:Addr→Prop} {h:Heap} {vs:List Value} {ds:List V} (r:Rvs B P h vs ds):vs.length=ds.length:=
 r.ind (M:=fun vs ds=>vs.length=ds.length) rfl fun _ _ e=>congrArg (· +1) e
theorem Rvs.append {B:Bs} {P:Addr→Prop} {h:Heap} {vs ws:List Value} {ds es:List V} (r:Rvs B P h vs ds) (y:Rvs B P h ws es):Rvs B P h (vs++ws) (ds++es):=
 r.ind (M:=fun vs ds=>Rvs B P h (vs++ws) (ds++es)) y fun a _ r=>.cons a r
theorem Rvs.get {B:Bs} {P:Addr→Prop} {h:Heap} {vs:List Value} {ds:List V} (r:Rvs B P h vs ds):∀{k:Nat} {d:V},ds[k]?=some d→∃v,vs[k]?=some v∧Rv B P h v d:=
 r.ind (M:=fun vs ds=>∀{k:Nat} {d:V},ds[k]?=some d→∃v,vs[k]?=some v∧Rv B P h v d) (fun e=>noS e) fun a _ r k d e=>by
  induction k with
  |zero=>exact⟨_,rfl,c7 e▸a⟩
  |succ k=>exact r e
def Rvs.Is (B:Bs) (P:Addr→Prop) (h:Heap) (vs:List Value):List V→Prop
 |[]=>vs=[]
 |d::ds=>∃v r,vs=v::r∧Rv B P h v d∧Rvs B P h r ds
theorem Rvs.inv {B:Bs} {P:Addr→Prop} {h:Heap} {vs:List Value} {ds:List V} (r:Rvs B P h vs ds):Rvs.Is B P h vs ds:=
 r.ind rfl fun a r _=>⟨_,_,rfl,a,r⟩
noncomputable abbrev pw:Program:=PySem.Challenge.pw_nm0131_01
noncomputable def mz:Program:={pw with main:={pw.main with body:=pw.main.body.drop 43}}
noncomputable def eD:List PySem.Str:=(["_wall","WasmFault","BadText","Misused","utf8_of","DIGITS","HEX_DIGITS","SMALL_LETTERS","GREAT_LETTERS","ID_SIGNS","LONE_SIGNS","BLANKS","ESCAPES","Token","Branch","is_token","whole_of","number_in","sorted_word","Lexer","tokens","trees","int_of","u32_of","_law_pieces","_law_text","_law_marks","_law_utf8","_law_whole","_law_octets","_law_number","_law_ends","_law_place","_law_read","_law_told_number","_law_due_number","_law_brackets","_law_is_refused","_law_trees"]:List String).map PySem.Str.ofString
set_option backward.match.sparseCases false in
noncomputable def Ko (b:List Stmt):List (Arguments×List Stmt×Scope):=b.flatMap fun st=>match st with
 |.FunctionDef _ a b _ _ _ sc _ _ _=>[(a,b,sc)]
 |.ClassDef _ _ _ b _ _ _ _ _ _ _=>b.flatMap fun st=>match st with
  |.FunctionDef _ a b _ _ _ sc _ _ _=>[(a,b,sc)]
  |_=>[]
 |_=>[]
noncomputable def AW (as:List Addr) (h:Heap):Frag:=as.filterMap fun a=>(h.get? a).map fun o=>(a,o)
theorem za (as:List Addr) (h:Heap):(AW as h).In h:=by
 intro a o e
 induction as with
 |nil=>cases e
 |cons x as ih=>
  have e':((x::as).filterMap fun a=>(h.get? a).map fun o=>(a,o)).lookup a=some o:=e;rw[y9] at e';cases q:h.get? x with
  |none=>rw[q] at e';exact ih e'
  |some o'=>
   rw[q] at e';dsimp only[Option.map_some] at e';rw[j5] at e';by_cases z:a=x
   ·subst z;rw[l9] at e';cases e';exact q
   ·rw[j6.mpr z] at e';exact ih e'
noncomputable def ca:Nat→Addr|0=>253|1=>97|2=>125|_=>58
abbrev FnV:=FuncBody×Arguments×Scope×Bool×Value
noncomputable def fnV (K:Frag) (a:Addr):Option FnV:=match K.lookup a with
 |some o=>(match o.data with
  |.func fd=>some (fd.body,fd.params,fd.scope,codeIn K fd.code fd.qualname&&fd.globals==mainGlobals&&fd.builtins==builtinsNs&&fd.closure.isEmpty&&keepIn K (.ref a)&&fd.kwdefaults== .none&&typeIn K (.ref a)==some (.type "function"),fd.defaults)
  |_=>none)
 |none=>none
noncomputable def fG:List (Nat×Addr×Value):=[(1,35,.none),(2,55,.none),(3,79,.none),(4,94,.none),(5,115,.none),(7,137,.ref 130),(8,144,.none),(9,151,.none),(10,158,.none),(11,172,.none),(12,179,.none),(13,186,.none),(14,193,.none),(15,201,.ref 194),(16,208,.none),(17,215,.none),(18,222,.none),(19,229,.none),(20,236,.none),(21,243,.none),(22,250,.none),(23,264,.none),(24,271,.none),(25,278,.none),(26,285,.none),(27,292,.none),(28,299,.none),(29,306,.none),(30,313,.none),(31,320,.none),(32,327,.none),(33,334,.none),(34,339,.none),(35,344,.none),(36,349,.none),(37,356,.none),(38,363,.none),(39,368,.none),(40,375,.none),(41,382,.none),(42,387,.none)]
noncomputable def pU:List (PySem.Str×Option Value):=(([("WasmFault",38),("BadText",58),("Token",97),("Branch",125),("Lexer",253),("utf8_of",79),("ESCAPES",80),("is_token",137),("whole_of",144),("number_in",151),("sorted_word",158),("tokens",264),("trees",271),("int_of",278),("u32_of",285),("_law_pieces",292),("_law_text",299),("_law_marks",306),("_law_utf8",313),("_law_whole",320),("_law_octets",327),("_law_number",334),("_law_ends",339),("_law_place",344),("_law_read",349),("_law_told_number",356),("_law_due_number",363),("_law_brackets",368),("_law_is_refused",375),("_law_trees",382),("law",387)]:List (String×Addr)).map fun x=>(PySem.Str.ofString x.1,some (.ref x.2)))++(["Exception","isinstance","len","ord","chr","bytes","bytearray","range","sorted","reversed"]:List String).map fun x=>(PySem.Str.ofString x,none)
noncomputable def xW:List (PySem.Str×List Nat):=([("DIGITS",[48,49,50,51,52,53,54,55,56,57]),("HEX_DIGITS",[48,49,50,51,52,53,54,55,56,57,97,98,99,100,101,102,65,66,67,68,69,70]),("SMALL_LETTERS",[97,98,99,100,101,102,103,104,105,106,107,108,109,110,111,112,113,114,115,116,117,118,119,120,121,122]),("ID_SIGNS",[48,49,50,51,52,53,54,55,56,57,97,98,99,100,101,102,103,104,105,106,107,108,109,110,111,112,113,114,115,116,117,118,119,120,121,122,65,66,67,68,69,70,71,72,73,74,75,76,77,78,79,80,81,82,83,84,85,86,87,88,89,90,33,35,36,37,38,39,42,43,45,46,47,58,60,61,62,63,64,92,94,95,96,124,126]),("LONE_SIGNS",[44,59,91,93,123,125]),("BLANKS",[32,9,10,13])]:List (String×List Nat)).map fun x=>(PySem.Str.ofString x.1,x.2)
noncomputable def pP:List (PySem.Str×Addr):=([("here",179),("starts",186),("fail",193),("step",201),("pass_row",208),("pass_block",215),("code_point",222),("escape",229),("string",236),("run",243),("whole",250)]:List (String×Addr)).map fun x=>(PySem.Str.ofString x.1,x.2)
abbrev OV:=Option (Option Value)
noncomputable def blt (x:String):OV:=some (some (.builtin x))
noncomputable def Lg:Option Value→Option (List Nat)|some (.str x _)=>some x.cps.toList|_=>none
structure Seen where
 ns:Bool
 lim:Option Value
 fns:List (Option FnV)
 cls:List (OV×OV×OV×Bool×List OV×OV×Bool×Option Bool×Bool×Bool)
 inits:List OV
 flds:List (Bool×List OV)
 kin:List (List Bool)
 bad:List OV
 badT:List OV
 badB:List (Option Bool)
 typ:Option Value
 keep:Bool×Bool
 find:Option CFound
 objs:List (Option Obj)
 glo:List (Option Value)
 str:List (Option (List Nat))
 mth:List OV
noncomputable def uZ (K:Frag) (g st:PySem.Str→Option Value) (ns:Bool):Seen where
 ns:=ns
 lim:=st "sys.recursionlimit"
 fns:=fG.map fun t=>fnV K t.2.1
 cls:=(List.range 3).map fun i=>(findIn K (.ref (ca i)) "__getattribute__",findIn K (.ref (ca i)) "__getattr__",findIn K (.ref (ca i)) "__setattr__",plainOver K (ca i),(List.range 9).map (fun f=>takerIn K (ca i) (aq f)),findIn K (.ref (ca i)) "__class__",plainGet K (ca i) "__class__",mroIn K (ca i) (.type "object"),keepIn K (.ref (ca i)),makesIn K (ca i))
 inits:=(List.range 3).map fun i=>findIn K (.ref (ca i)) "__init__"
 flds:=(List.range 4).map fun i=>(hasDictIn K (ca i),(List.range 9).map fun f=>findIn K (.ref (ca i)) (aq f))
 kin:=(List.range 3).map fun i=>(List.range 3).map fun j=>i==j||kin_not K (ca i) (ca j)
 bad:=[findIn K (.ref 58) "__getattribute__",findIn K (.ref 58) "__getattr__",specialIn K (.ref 58) "__call__",findIn K (.ref 58) "__init__",findIn K (.ref 58) "__setattr__",specialIn K (.ref 38) "__getattribute__"]
 badT:=(List.range 9).map fun f=>takerIn K 58 (aq f)
 badB:=[mroIn K 58 (.type "BaseException"),mroIn K 58 (.ref 58),instIn K (.ref 58) (.type "type"),instIn K (.ref 58) (.type "tuple")]
 typ:=typeIn K (.ref 58)
 keep:=(keepIn K (.ref 58),readsIn K 38 (.type "type"))
 find:=findCls K (.ref 38) (.type "type") "__init__"
 objs:=[K.lookup 58,K.lookup 80,K.lookup 130,K.lookup 194]
 glo:=pU.map fun x=>g x.1
 str:=xW.map fun x=>Lg (g x.1)
 mth:=pP.map fun x=>findIn K (.ref 253) x.1
noncomputable def AP:List Addr:=[2,97,125,253,58,38,96,124,252,57,37,80,130,194]++fG.flatMap fun t=>[t.2.1,t.2.1 - 1]
noncomputable def la (s:Shared):Seen:=uZ (AW AP s.heap) (s.heap.nsMap mainGlobals) (s.heap.nsMap cStatics) (s.heap.isNs mainGlobals&&s.heap.isNs cStatics)
noncomputable def nM:Obj:={cls:=.type "type",data:=.cls {name:="BadText",bases:=[.ref 38],mro:=[.ref 58,.ref 38,.type "Exception",.type "BaseException",.type "object"],ns:=57,qualname:="BadText"},slots:= #[some (.ref 42),none,some (.str "BadText" 225),some (.str "BadText" 233),some (.builtin "Exception.__new__"),some (.bool true)]}
noncomputable def xI (P:Params):List DictEntry:=[⟨PyData.keyHash P "t",.str "t" 300,.int 9 301⟩,⟨PyData.keyHash P "n",.str "n" 302,.int 10 303⟩,⟨PyData.keyHash P "r",.str "r" 304,.int 13 305⟩,⟨PyData.keyHash P "\"",.str "\"" 306,.int 34 307⟩,⟨PyData.keyHash P "'",.str "'" 308,.int 39 309⟩,⟨PyData.keyHash P "\\",.str "\\" 310,.int 92 311⟩]
noncomputable def nL (P:Params):Obj:=⟨.type "dict",none,.dict (xI P).toArray 6,#[]⟩
noncomputable def fH (i:Nat):Option (Arguments×List Stmt×Scope):=(Ko pw.main.body)[i]?
noncomputable def fu (P:Params):Seen where
 ns:=true
 lim:=none
 fns:=fG.map fun t=>(fH t.1).map fun d=>(.stmts d.2.1,d.1,d.2.2,true,t.2.2)
 cls:=(List.range 3).map fun _=>(blt "object.__getattribute__",some none,blt "object.__setattr__",true,(List.range 9).map (fun _=>some none),blt "object.__class__",true,some true,true,true)
 inits:=[some (some (.ref 172)),some (some (.ref 94)),some (some (.ref 115))]
 flds:=(List.range 4).map fun _=>(true,(List.range 9).map fun _=>some none)
 kin:=(List.range 3).map fun _=>(List.range 3).map fun _=>true
 bad:=[blt "BaseException.__getattribute__",some none,blt "type.__call__",some (some (.ref 55)),blt "object.__setattr__",blt "type.__getattribute__"]
 badT:=(List.range 9).map fun _=>some none
 badB:=[some true,some true,some true,some false]
 typ:=some (.type "type")
 keep:=(true,true)
 find:=some (.val (.ref 35))
 objs:=[some nM,some (nL P),some {cls:=.type "tuple",data:=.seq #[.none]},some {cls:=.type "tuple",data:=.seq #[.int 1 477]}]
 glo:=pU.map (·.2)
 str:=xW.map fun x=>some x.2
 mth:=pP.map fun x=>some (some (.ref x.2))
def Pr (σ:Sto) (F:Addr→Prop) (a:Addr):Prop:=σ a=none∧¬F a
noncomputable def flds:List PySem.Str:=(List.range 9).map aq
def RO (B:Bs) (P:Addr→Prop) (h:Heap) (a:Addr):AObj→Prop
 |.list xs=>∃vs n,h.get? a=some (lstO vs n)∧Rvs B P h vs xs∧xs.length≤ah
 |.barr b=>∃bs,h.get? a=some {cls:=.type "bytearray",data:=.bytearray bs 0}∧bs.toList.map (·.toNat)=b∧b.length≤ah
 |.dict fs=>∃(mm:PySem.Str→Option Value) (vals:Nat→Value),h.Ns1 a mm∧(∀i,(∃z,fs i=z∧z≠ .unb)→mm (aq i)=some (vals i))∧(∀i,Rv B P h (vals i) (fs i))∧(∀i,i<9→fs i= .unb→mm (aq i)=none)∧Within mm flds
theorem RO.keep (k:∀a o,P a→h.get? a=some o→P' a∧h'.get? a=some o) (ka:∀o,h.get? a=some o→h'.get? a=some o):∀{ob:AObj},RO B P h a ob→RO B P' h' a ob:=by
 intro ob r
 induction ob with
 |list xs=>
  refine aZ r fun vs n h0 r l=>?_;exact⟨vs,n,ka _ h0,r.keep k,l⟩
 |barr b=>
  refine aj r fun bs h0 e=>?_;exact⟨bs,ka _ h0,e⟩
 |dict fs=>
  refine mW r fun mm vals n f r u=>?_;exact⟨mm,vals,n.at ka,f,fun i=>(r i).keep k,u⟩
theorem RO.alive (r:RO B P h a ob):(h.get? a).isSome=true:=by
 induction ob with
 |list xs=>exact r.elim fun vs r=>r.elim fun n r=>er r.1 rfl
 |barr b=>exact r.elim fun bs r=>er r.1 rfl
 |dict fs=>exact r.elim fun mm r=>r.elim fun vals r=>dO r.1.ns
structure HR (B:Bs) (F:Addr→Prop) (σ:Sto) (h:Heap):Prop where
 ob:∀a o,σ a=some o→RO B (Pr σ F) h a o
 priv:∀a,σ a≠none→¬F a
 new:∀a,σ a≠none→B.base.get? a=none
theorem HR.alive (H:HR B F σ h) (e:σ a≠none):(h.get? a).isSome=true:=by
 refine ar (z9.mp e) fun o ho=>?_;exact(H.ob a o ho).alive
theorem HR.dead (H:HR B F σ h) (e:h.get? a=none):σ a=none:=by
 cases q:σ a with
 |none=>rfl
 |some o=>have:=H.alive (a:=a) (er q (fun x=>nomatch x));rw[e] at this;exact noT this
def Ec (l:List Env):Addr→Prop:=fun a=>∃env∈l,env.frame=some a
structure FC where
 env:Env
 fenv:Env
 outer:List Env
 A:Around
 F:Addr→Prop
 own:Addr→Prop
 vars:List (Nat×PySem.Str×Bool)
 lev:Nat
 hd:Bool
 cw:Bool
 M4:Sto
 NA:Addr→Prop
 MW:Shared
abbrev FC.sl (c:FC):Addr→Prop:=Ec (c.fenv::c.outer)
def FC.ck (c:FC) (id:PySem.Str):Prop:=c.env.kindOf id=some .cell∧c.cw=true
structure FC.Ok (B:Bs) (c:FC):Prop where
 kind:c.env.scope.kind= .function
 globals:c.env.globals=mainGlobals
 bns:c.env.builtins=builtinsNs
 frames:c.A.frames=some (c.fenv::c.outer)
 frame:c.env.frame=c.fenv.frame
 fkind:c.fenv.scope.kind= .function
 priv:∀env∈(c.fenv::c.outer),∀L,env.frame=some L→c.F L
 handled:c.hd=true→c.A.handled=none
 guards:c.A.guards=some []
 depth:c.A.depth+c.lev+20<recursionLimit
 units:c.A.units+10*c.lev+500<cLine
 ownL:c.own c.env.locals
 ownF:∀a,c.own a→c.F a
 ownNew:∀a,c.own a→c.MW.heap.get? a=none
 FF:∀a,c.sl a→c.NA a∨c.MW.heap.get? a=none
 vloc:∀x∈c.vars,x.2.2=false→c.env.kindOf x.2.1=some .local
 vcell:∀x∈c.vars,x.2.2=true→(c.env.kindOf x.2.1=some .cell∨c.env.kindOf x.2.1=some .free)∧∃a,c.env.cells.lookup x.2.1=some a∧c.F a∧(c.cw=true→c.own a)
 cellL:∀x∈c.vars,∀a,x.2.2=true→c.env.cells.lookup x.2.1=some a→a≠c.env.locals
 inj:∀x∈c.vars,∀y∈c.vars,x.1=y.1→x=y
 injn:∀x∈c.vars,∀y∈c.vars,x.2.1=y.2.1→x=y
 injc:∀x∈c.vars,∀y∈c.vars,x.2.2=true→y.2.2=true→c.env.cells.lookup x.2.1=c.env.cells.lookup y.2.1→x=y
 NZ:∀a,c.M4 a≠none→¬c.NA a
theorem FC.Ok.slF {B:Bs} {c:FC} (hc:c.Ok B) {a:Addr} (h:c.sl a):c.F a:=let ⟨env,he,hL⟩:=h;hc.priv env he a hL
def Loc (B:Bs) (c:FC) (m:Nat→V) (σ:Sto) (h:Heap):Prop:=
 (∃mm,h.Ns c.env.locals mm∧∀x∈c.vars,x.2.2=false→m x.1= .unb∨∃v,mm x.2.1=some v∧Rv B (Pr σ c.F) h v (m x.1))∧
 ∀x∈c.vars,x.2.2=true→∀a,c.env.cells.lookup x.2.1=some a→∃ov,h.IsCell a ov∧(m x.1= .unb∨∃v,ov=some v∧Rv B (Pr σ c.F) h v (m x.1))
def cX (s s':Shared):Prop:=s'.gens=s.gens∧s'.os=s.os∧s'.drawn=s.drawn
theorem cX.refl (s:Shared):cX s s:=⟨rfl,rfl,rfl⟩
theorem cX.trans (x:cX s M0) (y:cX M0 M8):cX s M8:=⟨y.1.trans x.1,y.2.1.trans x.2.1,y.2.2.trans x.2.2⟩
structure St (B:Bs) (c:FC) (m:Nat→V) (σ:Sto) (s:Shared):Prop where
 loc:Loc B c m σ s.heap
 hr:HR B c.F σ s.heap
 fal:∀a,c.F a→(s.heap.get? a).isSome=true∧B.base.get? a=none
 stays:B.base.StaysIn s.heap
 ff:s.heap.FunFrames B.base (c.fenv::c.outer)
 ev:Ev (fun a=>c.M4 a≠none) c.NA c.MW.heap s.heap
 nd:∀a,σ a≠none→c.M4 a≠none∨c.MW.heap.get? a=none
 same:cX c.MW s
structure Nx (c:FC) (σ:Sto) (s:Shared) (M1:Sto) (s':Shared):Prop where
 ev:Ev (fun a=>σ a≠none∨c.own a) c.sl s.heap s'.heap
 nd:∀a,M1 a≠none→σ a≠none∨s.heap.get? a=none
 same:cX s s'
theorem Nx.refl (c:FC) (σ:Sto) (s:Shared):Nx c σ s σ s:=⟨.refl ..,fun _ h=>.inl h,.refl _⟩
theorem bJ {h:Heap} {a:Addr} (e:(h.get? a).isSome=true) (q:h.get? a=none):False:=by rw[q] at e;exact noT e
theorem Nx.trans {c:FC} {σ J M2:Sto} {s M0 M8:Shared} (x:Nx c σ s J M0) (y:Nx c J M0 M2 M8):Nx c σ s M2 M8:=by
 refine⟨x.ev.trans y.ev (fun a e z=>?_) (fun a e z=>.inl z),fun a z=>?_,x.same.trans y.same⟩
 ·rcases z with z|z
  ·exact(x.nd a z).elim .inl fun q=>(bJ e q).elim
  ·exact .inr z
 ·rcases y.nd a z with q|q
  ·exact x.nd a q
  ·right;cases w:s.heap.get? a with
   |none=>rfl
   |some o=>exact(bJ (x.ev.alive a (er w rfl)) q).elim
theorem Nx.keep {B:Bs} {c:FC} {σ M1:Sto} {s s':Shared} (hc:c.Ok B) (x:Nx c σ s M1 s'):∀a o,Pr σ c.F a→s.heap.get? a=some o→Pr M1 c.F a∧s'.heap.get? a=some o:=by
 intro a o p e;have q:(s.heap.get? a).isSome=true:=er e rfl;refine⟨⟨?_,p.2⟩,x.ev.same a o e (fun z=>z.elim (fun z=>z p.1) fun z=>p.2 (hc.ownF a z)) fun z=>p.2 (hc.slF z)⟩;cases w:M1 a with
 |none=>rfl
 |some ob=>exact(x.nd a (er w (fun z=>nomatch z))).elim (fun z=>(z p.1).elim) fun z=>(bJ q z).elim
theorem Nx.rv (hc:c.Ok B) (x:Nx c σ s M1 s') (r:Rv B (Pr σ c.F) s.heap v d):Rv B (Pr M1 c.F) s'.heap v d:=r.keep (x.keep hc)
theorem Nx.rvs (hc:c.Ok B) (x:Nx c σ s M1 s') (r:Rvs B (Pr σ c.F) s.heap v d):Rvs B (Pr M1 c.F) s'.heap v d:=r.keep (x.keep hc)
structure Nq (c:FC) (σ:Sto) (s:Shared) (M1:Sto) (s':Shared):Prop where
 ev:Ev (fun a=>σ a≠none) c.sl s.heap s'.heap
 nd:∀a,M1 a≠none→σ a≠none∨s.heap.get? a=none
 same:cX s s'
theorem Nq.nx (x:Nq c σ s M1 s'):Nx c σ s M1 s':=⟨x.ev.mono fun _ _=>.inl,x.nd,x.same⟩
theorem gX {h h':Heap} {a:Addr} {ov:Option Value} (x:h.IsCell a ov) (k:∀o,h.get? a=some o→∃sl,h'.get? a=some {o with slots:=sl}):h'.IsCell a ov:=by
 refine aj x fun o ho hd=>?_;refine ar (k o ho) fun sl e=>?_;exact⟨_,e,hd⟩
theorem nV {h h':Heap} {a:Addr} {mm:PySem.Str→Option Value} (x:h.Ns a mm) (k:∀o,h.get? a=some o→∃sl,h'.get? a=some {o with slots:=sl}):h'.Ns a mm:=by
 refine sN x fun o es ep ho r=>?_;refine ar (k o ho) fun sl e=>?_;exact⟨_,es,ep,e,r⟩
theorem cA {base h h':Heap} {l:List Env}:h.FunFrames base l→(∀env∈l,∀L,env.frame=some L→∀o,h.get? L=some o→∃sl,h'.get? L=some {o with slots:=sl})→h'.FunFrames base l:=by
 induction l with
 |nil=>exact fun _ _=>trivial
 |cons env l ih=>
  intro H k;refine cQ H fun hk z1_ hr=>?_;obtain⟨L,o,hf,hn,ho,hd⟩:=z1_;refine ar (k env (.head _) L hf o ho) fun sl e=>?_;exact⟨hk,⟨L,_,hf,hn,e,hd⟩,ih hr fun e he=>k e (.tail _ he)⟩
theorem St.own_not (hc:c.Ok B) (S:St B c m σ s) (h:c.own a):¬(σ a≠none):=fun z=>S.hr.priv a z (hc.ownF a h)
theorem St.step {B:Bs} {c:FC} {m:Nat→V} {σ M1:Sto} {s s':Shared} (hc:c.Ok B) (S:St B c m σ s) (x:Nq c σ s M1 s') (hr:HR B c.F M1 s'.heap):St B c m M1 s':=by
 have sl:∀a,c.F a→∀o,s.heap.get? a=some o→∃sl,s'.heap.get? a=some {o with slots:=sl}:=fun a ha o e=>x.ev.any a o e fun z=>S.hr.priv a z ha;refine⟨⟨?_,?_⟩,hr,fun a f=>⟨x.ev.alive a (S.fal a f).1,(S.fal a f).2⟩,fun b o e=>?_,?_,?_,fun a z=>?_,S.same.trans x.same⟩
 ·refine aj S.loc.1 fun mm hn k=>?_;refine⟨mm,nV hn (sl _ (hc.ownF _ hc.ownL)),fun y hy e=>(k y hy e).imp id fun⟨v,q,r⟩=>⟨v,q,x.nx.rv hc r⟩⟩
 ·intro y hy e a ha;refine av fun gP gO=>?_;refine aj (S.loc.2 y hy e a ha) fun ov hcell k=>?_;obtain⟨-,a',ha',ho,-⟩:=hc.vcell y hy e;have:a=a':=c7 (ha.symm.trans ha');subst this;refine gO ?_;exact⟨ov,gX hcell (sl _ ho),k.imp id fun⟨v,q,r⟩=>⟨v,q,x.nx.rv hc r⟩⟩
 ·refine x.ev.same b o (S.stays b o e) (fun z=>?_) fun z=>?_
  ·have:=S.hr.new b z;rw[e] at this;exact noS this.symm
  ·have:=(S.fal b (hc.slF z)).2;rw[e] at this;exact noS this.symm
 ·exact cA S.ff fun env he L hL o e=>x.ev.any L o e fun z=>S.hr.priv L z (hc.priv env he L hL)
 ·exact S.ev.trans x.ev (fun a e z=>(S.nd a z).elim id fun q=>(bJ e q).elim) (fun a e z=>(hc.FF a z).imp id fun q=>(bJ e q).elim)
 ·rcases x.nd a z with q|q
  ·exact S.nd a q
  ·right;cases w:c.MW.heap.get? a with
   |none=>rfl
   |some o=>exact(bJ (S.ev.alive a (er w rfl)) q).elim
section
set_option backward.match.sparseCases false
set_option genCtorIdx true in
inductive Op where
 |add|sub|mul|mod|fdiv|pow|shl|shr|bor|band
set_option genCtorIdx true in
inductive Cm where
 |eq|ne|lt|le|gt|ge|isN|notN|inn|nin
mutual
inductive X where
 |absent
 |var (i:Nat)
 |lit (d:V)
 |gstr (g:Nat)
 |attr (o:X) (f:Nat)
 |bin (op:Op) (a b:X)
 |neg (a:X)
 |not (a:X)
 |and (a b:X)
 |or (a b:X)
 |cmp (op:Cm) (a b:X)
 |cmp2 (Nu Nt:Cm) (a b c:X)
 |ife (c a b:X)
 |tup (xs:XL)
 |list (mu:Bool) (xs:XL)
 |sub (a i:X)
 |slice (a lo hi:X)
 |call (g:Nat) (xs:XL)
 |mcall (g:Nat) (o:X) (xs:XL)
 |new (c:Nat) (fz:Bool) (xs:XL)
 |isin (c:Nat) (a:X)
 |blt (k:Nat) (a:X)
 |barr0
 |append (o a:X)
 |extend (o a:X)
 |pop (o:X)
 |frz (a:X)
 |lower (a:X)
 |split (a b:X)
 |find (a b c:X)
 |index (a b:X)
 |esc (gl:Bool) (a:X)
 |inEsc (a:X)
 |comp (mu:Bool) (elt cond:X) (i kind:Nat) (e f:X)
inductive XL where
 |nil
 |cons (a:X) (r:XL)
end
inductive S where
 |assign (i:Nat) (e:X)
 |assignT (is:List Nat) (e:X)
 |setattr (o:X) (f:Nat) (e:X)
 |expr (e:X)
 |ite (c:X) (a b:S)
 |while_ (c:X) (b:S)
 |for_ (i kind:Nat) (e f:X) (b:S)
 |ret (e:X)
 |raise (N6 N7 Na:X)
 |try_ (b:S) (i:Nat) (h:S)
 |cont
 |brk
 |skip
 |dead
 |seq (a b:S)
abbrev Kx:=V→Sto→Prop
abbrev Ke:=Int→Int→Sto→Prop
abbrev aP:=List V→Sto→Kx→Ke→Prop
noncomputable def cb (σ:Sto):V→Option (List V)
 |.lst xs=>some xs
 |.lref a=>(match σ a with|some (.list xs)=>some xs|_=>none)
 |_=>none
noncomputable def bS:List V→Option (List Int)
 |[]=>some []
 |.int i::r=>(bS r).map (i:: ·)
 |_::_=>none
def dz (d:V) (f:Int→Prop):Prop:=match d with|.int i=>f i|_=>False
def jk (d:V) (f:List Nat→Prop):Prop:=match d with|.str x=>f x|_=>False
def ig {α:Type} (x:List α) (f:α→Prop):Prop:=match x with|[c]=>f c|_=>False
def ik (d:V) (f:Bool→Prop):Prop:=match d with|.bool b=>f b|_=>False
def jm (σ:Sto) (d:V) (f:List V→Prop):Prop:=match cb σ d with|some xs=>f xs|none=>False
def cS {α:Type} (o:Option α) (f:α→Prop):Prop:=match o with|some b=>f b|none=>False
def Ih (d:V) (f:Nat→Nat→Prop):Prop:=match d with|.obj c a=>f c a|_=>False
def Ak (d:V) (f:Nat→Prop):Prop:=match d with|.fobj c _=>f c|_=>False
def HC (d:V) (f:Prop):Prop:=match d with|.none=>f|_=>False
def zK (d:V) (f:List V→Prop):Prop:=match d with|.tup xs=>f xs|_=>False
theorem Cz (h:Ih d f):∃c a,d= .obj c a∧f c a:=by
 cases d<;>first|exact False.elim h|exact⟨_,_,rfl,h⟩
theorem zb (h:Ak d f):∃c fs,d= .fobj c fs∧f c:=by
 cases d<;>first|exact False.elim h|exact⟨_,_,rfl,h⟩
theorem yS {f:Prop} (h:HC d f):d= .none∧f:=by
 cases d<;>first|exact False.elim h|exact⟨rfl,h⟩
theorem BQ (h:zK d f):∃xs,d= .tup xs∧f xs:=by
 cases d<;>first|exact False.elim h|exact⟨_,rfl,h⟩
def nj (d:V) (f:V→Prop):Prop:=match d with|.unb=>False|d=>f d
theorem lH (h:nj d f):d≠ .unb∧f d:=by
 cases d<;>first|exact False.elim h|exact⟨V.noConfusion,h⟩
theorem cJ (h:dz d f):∃i,d= .int i∧f i:=by
 cases d<;>first|exact False.elim h|exact⟨_,rfl,h⟩
theorem nR {d:V} {f:List Nat→Prop} (h:jk d f):∃i,d= .str i∧f i:=by
 cases d<;>first|exact False.elim h|exact⟨_,rfl,h⟩
theorem jh (h:ik d f):∃i,d= .bool i∧f i:=by
 cases d<;>first|exact False.elim h|exact⟨_,rfl,h⟩
theorem gx {α:Type} {x:List α} {f:α→Prop} (h:ig x f):∃c,x=[c]∧f c:=by
 cases x with
 |nil=>exact False.elim h
 |cons c r=>induction r with
  |nil=>exact⟨c,rfl,h⟩
  |cons _ _=>exact False.elim h
theorem gy {d:V} {f:Nat→Prop} (h:jk d fun x=>ig x f):∃c,d= .str [c]∧f c:=by
 refine aj (nR h) fun x e h=>?_;refine aj (gx h) fun c e' h=>?_;exact⟨c,e'▸e,h⟩
theorem cy {α:Type} {o:Option α} {f:α→Prop} (h:cS o f):∃b,o=some b∧f b:=by
 induction o with
 |none=>exact False.elim h
 |some b=>exact⟨b,rfl,h⟩
theorem gu (h:jm σ d f):∃xs,cb σ d=some xs∧f xs:=by
 unfold jm at h;cases e:cb σ d with
 |none=>rw[e] at h;exact False.elim h
 |some b=>rw[e] at h;exact⟨b,rfl,h⟩
def opV (op:Op) (M9 M5:V) (σ:Sto) (K:Kx):Prop:=match op with
 |.add=>(match M9 with
   |.int i=>dz M5 fun j=>K (.int (i+j)) σ
   |.str x=>jk M5 fun y=>x.length+y.length≤ah∧K (.str (x++y)) σ
   |M9=>jm σ M9 fun xs=>jm σ M5 fun ys=>xs.length+ys.length≤ah∧K (.lst (xs++ys)) σ)
 |.sub=>dz M9 fun i=>dz M5 fun j=>K (.int (i - j)) σ
 |.mul=>dz M5 fun j=>(match M9 with
   |.int i=>IntMulOk i j∧K (.int (i*j)) σ
   |M9=>jm σ M9 fun xs=>ig xs fun x=>(0≤j∧j≤100)∧K (.lst (List.replicate j.toNat x)) σ)
 |.mod=>dz M9 fun i=>dz M5 fun j=>(j≠0∧j.natAbs<1073741824)∧K (.int (i.fmod j)) σ
 |.fdiv=>dz M9 fun i=>dz M5 fun j=>(j≠0∧j.natAbs<1073741824)∧K (.int (i.fdiv j)) σ
 |.pow=>dz M9 fun i=>dz M5 fun j=>(0≤j∧(Builtin.Int.intBits i:Int)*j≤2^27)∧K (.int (i^j.toNat)) σ
 |.shl=>dz M9 fun i=>dz M5 fun j=>((0≤j∧j≤1000000)∧i.natAbs<2^64)∧K (.int (i*2^j.toNat)) σ
 |.shr=>dz M9 fun i=>dz M5 fun j=>0≤j∧K (.int (i.fdiv (2^j.toNat))) σ
 |.bor=>dz M9 fun i=>dz M5 fun j=>K (.int (Builtin.bitOr i j)) σ
 |.band=>dz M9 fun i=>dz M5 fun j=>K (.int (Builtin.bitAnd i j)) σ
noncomputable def jv {α:Type} (d:V) (f:Int→Option α):Option α:=match d with|.int i=>f i|_=>none
noncomputable def uR {α:Type} (d:V) (f:List Nat→Option α):Option α:=match d with|.str x=>f x|_=>none
noncomputable def uS {α:Type} (x:List Nat) (f:Nat→Option α):Option α:=match x with|[c]=>f c|_=>none
noncomputable def kS {α:Type} (σ:Sto) (d:V) (f:List V→Option α):Option α:=match cb σ d with|some xs=>f xs|none=>none
theorem dP {α:Type} {d:V} {f:Int→Option α} {a:α} (h:jv d f=some a):∃i,d= .int i∧f i=some a:=by
 cases d<;>first|exact noS h|exact⟨_,rfl,h⟩
theorem iq {α:Type} {d:V} {f:List Nat→Option α} {a:α} (h:uR d f=some a):∃i,d= .str i∧f i=some a:=by
 cases d<;>first|exact noS h|exact⟨_,rfl,h⟩
theorem tE {α:Type} {x:List Nat} {f:Nat→Option α} {a:α} (h:uS x f=some a):∃c,x=[c]∧f c=some a:=by
 cases x with
 |nil=>exact noS h
 |cons c r=>induction r with
  |nil=>exact⟨c,rfl,h⟩
  |cons _ _=>exact noS h
theorem nU {α:Type} {σ:Sto} {d:V} {f:List V→Option α} {a:α} (h:kS σ d f=some a):∃xs,cb σ d=some xs∧f xs=some a:=by
 unfold kS at h;cases e:cb σ d with
 |none=>rw[e] at h;exact noS h
 |some b=>rw[e] at h;exact⟨b,rfl,h⟩
noncomputable def eq0 (M9 M5:V):Option Bool:=match M9 with
 |.int i=>jv M5 fun j=>some (decide (i=j))
 |.str a=>uR M5 fun b=>some (decide (a=b))
 |_=>none
noncomputable def cF (f:V→V→Option Bool):List V→List V→Option Bool
 |[],[]=>some true
 |x::xs,y::ys=>(match f x y,cF f xs ys with|some a,some b=>some (a&&b)|_,_=>none)
 |[],_::_=>some false
 |_::_,[]=>some false
noncomputable def zV {α:Type} (d:V) (f:List V→Option α):Option α:=match d with|.tup x=>f x|_=>none
noncomputable def Lv {α:Type} (d:V) (f:List Nat→Option α):Option α:=match d with|.bytes x=>f x|_=>none
theorem th {α:Type} {d:V} {f:List V→Option α} {a:α} (h:zV d f=some a):∃i,d= .tup i∧f i=some a:=by
 cases d<;>first|exact noS h|exact⟨_,rfl,h⟩
theorem DQ {α:Type} {d:V} {f:List Nat→Option α} {a:α} (h:Lv d f=some a):∃i,d= .bytes i∧f i=some a:=by
 cases d<;>first|exact noS h|exact⟨_,rfl,h⟩
noncomputable def eqV (M9 M5:V):Option Bool:=match M9 with
 |.tup xs=>zV M5 fun ys=>cF eq0 xs ys
 |M9=>eq0 M9 M5
noncomputable def HW (σ:Sto) (M9 M5:V):Option Bool:=kS σ M9 fun xs=>kS σ M5 fun ys=>if xs.length=ys.length then cF eqV xs ys else some false
noncomputable def An (σ:Sto) (M9 M5:V):Option Bool:=match M9 with
 |.int i=>jv M5 fun j=>some (decide (i=j))
 |.str a=>uR M5 fun b=>some (decide (a=b))
 |.bytes a=>Lv M5 fun b=>some (decide (a=b))
 |.tup xs=>zV M5 fun ys=>cF eq0 xs ys
 |M9=>HW σ M9 M5
noncomputable def eP (x:V):List V→Option Bool
 |[]=>some false
 |y::ys=>(match eqV y x,eP x ys with|some a,some b=>some (a||b)|_,_=>none)
noncomputable def HL:List Nat→List Nat→Option Bool
 |[c],l=>some (l.contains c)
 |_,_=>none
noncomputable def inV (σ:Sto) (M9 M5:V):Option Bool:=match M5 with
 |.str x=>uR M9 fun y=>HL y x
 |.tup xs=>eP M9 xs
 |M5=>kS σ M5 fun xs=>eP M9 xs
noncomputable def Il:V→Option Bool
 |.unb=>none
 |.none=>some true
 |_=>some false
noncomputable def Ag (d:V) (o:Option Bool):Option Bool:=match d with|.none=>o|_=>none
theorem qg (h:Ag d o=some a):d= .none∧o=some a:=by
 cases d<;>first|exact noS h|exact⟨rfl,h⟩
noncomputable def fZ (σ:Sto) (op:Cm) (M9 M5:V):Option Bool:=match op with
 |.eq=>An σ M9 M5
 |.ne=>(An σ M9 M5).map not
 |.lt=>(match M9 with
   |.int i=>jv M5 fun j=>some (decide (i<j))
   |.str x=>uS x fun a=>uR M5 fun y=>uS y fun b=>some (decide (a<b))
   |_=>none)
 |.le=>(match M9 with
   |.int i=>jv M5 fun j=>some (decide (i≤j))
   |.str x=>uS x fun a=>uR M5 fun y=>uS y fun b=>some (decide (a≤b))
   |_=>none)
 |.gt=>jv M9 fun i=>jv M5 fun j=>some (decide (i>j))
 |.ge=>jv M9 fun i=>jv M5 fun j=>some (decide (i≥j))
 |.isN=>Ag M5 (Il M9)
 |.notN=>Ag M5 ((Il M9).map not)
 |.inn=>inV σ M9 M5
 |.nin=>(inV σ M9 M5).map not
noncomputable def di (n:Nat) (i:Int):Nat:=if i<0 then(i+n).toNat else min i.toNat n
noncomputable def cut {α:Type} (l:List α) (lo hi:Option Int):List α:=
 let a:=match lo with|none=>0|some i=>di l.length i
 let b:=match hi with|none=>l.length|some i=>di l.length i
 (l.take b).drop a
noncomputable def gJ:V→Option (Option Int)
 |.none=>some none
 |.int i=>some (some i)
 |_=>none
def Iw (d:V) (l h:Option Int) (σ:Sto) (K:Kx):Prop:=match d with
 |.str x=>K (.str (cut x l h)) σ
 |d=>jm σ d fun xs=>K (.lst (cut xs l h)) σ
def nA (d lo hi:V) (σ:Sto) (K:Kx):Prop:=match gJ lo,gJ hi with
 |some l,some h=>Iw d l h σ K
 |_,_=>False
noncomputable def idx (n:Nat) (i:Int):Option Nat:=if 0≤i then(if i.toNat<n then some i.toNat else none) else if 0≤i+n then some (i+n).toNat else none
def atK {α:Type} (xs:List α) (i:Int) (f:α→Prop):Prop:=match (idx xs.length i).bind (xs[·]?) with|some c=>f c|none=>False
theorem rM {α:Type} {xs:List α} {i:Int} {f:α→Prop} (h:atK xs i f):∃j x,idx xs.length i=some j∧xs[j]?=some x∧f x:=by
 unfold atK at h;cases e:idx xs.length i with
 |none=>rw[e] at h;exact False.elim h
 |some j=>
  rw[e] at h;have h:(match xs[j]? with|some c=>f c|none=>False):=h;cases e2:xs[j]? with
  |none=>rw[e2] at h;exact False.elim h
  |some x=>rw[e2] at h;exact⟨j,x,rfl,e2,h⟩
def uQ (d i:V) (σ:Sto) (K:Kx):Prop:=dz i fun i=>match d with
 |.str x=>atK x i fun c=>K (.str [c]) σ
 |.tup xs=>atK xs i fun v=>K v σ
 |d=>jm σ d fun xs=>atK xs i fun v=>K v σ
noncomputable def eJ (c:Nat):Nat:=if 65≤c∧c≤90 then c+32 else c
noncomputable def bL (c:Nat):List Nat→List (List Nat)
 |[]=>[[]]
 |x::r=>if x=c then[]::bL c r else(match bL c r with|p::q=>(x::p)::q|[]=>[[x]])
theorem gA (h:x=c):bL c (x::r)=[]::bL c r:=i7 h
theorem fb (h:x≠c) (e:bL c r=p::q):bL c (x::r)=(x::p)::q:=(i3 h).trans (by rw[e])
theorem eg (c:Nat) (l:List Nat):∃p q,bL c l=p::q:=by
 induction l with
 |nil=>exact⟨_,_,rfl⟩
 |cons x r ih=>
  by_cases h:x=c
  ·exact⟨_,_,gA h⟩
  ·refine cu ih fun p q e=>?_;exact⟨_,_,fb h e⟩
noncomputable def bv (c:Nat):List Nat→Nat→Int
 |[],_=> -1
 |x::r,k=>if x=c then k else bv c r (k+1)
noncomputable def bP (c:Nat):Option Int:=if c=116 then some 9 else if c=110 then some 10 else if c=114 then some 13 else if c=34 then some 34 else if c=39 then some 39 else if c=92 then some 92 else none
def sU (σ:Sto) (a:Nat) (f:(Nat→V)→Prop):Prop:=match σ a with|some (.dict fs)=>f fs|_=>False
def pR (σ:Sto) (a:Nat) (f:List V→Prop):Prop:=match σ a with|some (.list xs)=>f xs|_=>False
def pV (σ:Sto) (a:Nat) (f:List Nat→Prop):Prop:=match σ a with|some (.barr b)=>f b|_=>False
def lY (σ:Sto) (d:V) (f:List Int→Prop):Prop:=match (cb σ d).bind bS with|some is=>f is|none=>False
theorem lM (h:sU σ a f):∃x,σ a=some (.dict x)∧f x:=by
 unfold sU at h;cases e:σ a with
 |none=>rw[e] at h;exact False.elim h
 |some o=>rw[e] at h;cases o<;>first|exact⟨_,rfl,h⟩|exact False.elim h
theorem je (h:pR σ a f):∃x,σ a=some (.list x)∧f x:=by
 unfold pR at h;cases e:σ a with
 |none=>rw[e] at h;exact False.elim h
 |some o=>rw[e] at h;cases o<;>first|exact⟨_,rfl,h⟩|exact False.elim h
theorem ji (h:pV σ a f):∃x,σ a=some (.barr x)∧f x:=by
 unfold pV at h;cases e:σ a with
 |none=>rw[e] at h;exact False.elim h
 |some o=>rw[e] at h;cases o<;>first|exact⟨_,rfl,h⟩|exact False.elim h
theorem ql (h:lY σ d f):∃xs is,cb σ d=some xs∧bS xs=some is∧f is:=by
 unfold lY at h;cases e:cb σ d with
 |none=>rw[e] at h;exact False.elim h
 |some xs=>
  rw[e] at h;cases e2:bS xs with
  |none=>rw[Option.bind_some,e2] at h;exact False.elim h
  |some is=>rw[Option.bind_some,e2] at h;exact⟨xs,is,rfl,e2,h⟩
def xZ (k:Nat) (d:V) (σ:Sto) (K:Kx):Prop:=match k with
 |0=>(match d with -- len
   |.str x=>K (.int x.length) σ
   |d=>jm σ d fun xs=>K (.int xs.length) σ)
 |1=>jk d fun x=>ig x fun c=>K (.int c) σ -- ord
 |2=>dz d fun i=>(0≤i∧i≤1114111)∧K (.str [i.toNat]) σ -- chr
 |3=>(match d with -- bytes
   |.bref a=>pV σ a fun b=>K (.bytes b) σ
   |d=>lY σ d fun is=>(∀i∈is,0≤i∧i<256)∧K (.bytes (is.map Int.toNat)) σ)
 |4=>lY σ d fun is=>is.length<64∧∀js:List Int,js.Perm is→js.Pairwise (· ≤ ·)→K (.lst (js.map .int)) σ -- sorted
 |_=>False
def Ii (d:V) (f:List V→Prop):Prop:=match d with|.lst x=>f x|_=>False
theorem CH (h:Ii d f):∃i,d= .lst i∧f i:=by
 cases d<;>first|exact False.elim h|exact⟨_,rfl,h⟩
def rN (o d:V) (σ:Sto) (K:Kx):Prop:=match o with
 |.lref a=>pR σ a fun xs=>xs.length<ah∧K .none (σ.put a (.list (xs++[d])))
 |.bref a=>pV σ a fun b=>dz d fun i=>(b.length<ah∧0≤i∧i<256)∧K .none (σ.put a (.barr (b++[i.toNat])))
 |_=>False
def gL (o d:V) (σ:Sto) (K:Kx):Prop:=match o with
 |.lref a=>pR σ a fun xs=>Ii d fun ys=>xs.length+ys.length≤ah∧K .none (σ.put a (.list (xs++ys)))
 |.bref a=>pV σ a fun b=>(match d with
   |.bytes c=>b.length+c.length≤ah∧K .none (σ.put a (.barr (b++c)))
   |d=>Ii d fun ys=>(match bS ys with
     |some is=>(b.length+is.length≤ah∧∀i∈is,0≤i∧i<256)∧K .none (σ.put a (.barr (b++is.map Int.toNat)))
     |none=>False))
 |_=>False
def Lh (o:V) (σ:Sto) (K:Kx):Prop:=match o with
 |.lref a=>pR σ a fun xs=>(match xs.getLast? with|some v=>K v (σ.put a (.list xs.dropLast))|none=>False)
 |_=>False
def HZ (d:V) (f:Nat) (σ:Sto) (K:Kx):Prop:=match d with
 |.obj c a=>sU σ a fun fs=>nj (fs f) fun v=>K v σ
 |.fobj c fs=>nj (fs f) fun v=>K v σ
 |.exc r c=>(match f with|2=>K (.int r) σ|3=>K (.int c) σ|_=>False)
 |_=>False
mutual
inductive Fz (σ M1:Sto):V→V→Prop
 |same (d:V):Fz σ M1 d d
 |lst {a:Nat} {xs ys:List V}:σ a=some (.list xs)→M1 a=none→Fzs σ M1 xs ys→Fz σ M1 (.lref a) (.lst ys)
 |obj {c d:Nat} {fs gs:Nat→V}:σ d=some (.dict fs)→M1 d=none→(∀i,Fz σ M1 (fs i) (gs i))→Fz σ M1 (.obj c d) (.fobj c gs)
 |tup {xs ys:List V}:Fzs σ M1 xs ys→Fz σ M1 (.tup xs) (.tup ys)
 |fobj {c:Nat} {fs gs:Nat→V}:(∀i,Fz σ M1 (fs i) (gs i))→Fz σ M1 (.fobj c fs) (.fobj c gs)
inductive Fzs (σ M1:Sto):List V→List V→Prop
 |nil:Fzs σ M1 [] []
 |cons {d e:V} {ds es:List V}:Fz σ M1 d e→Fzs σ M1 ds es→Fzs σ M1 (d::ds) (e::es)
end
def Sub (M1 σ:Sto):Prop:=∀a o,M1 a=some o→σ a=some o
noncomputable def ifO {α:Type} (c:Prop) [Decidable c] (a:α):Option α:=if c then some a else none
theorem jZ {α:Type} {c:Prop} [Decidable c] {a b:α} (h:ifO c a=some b):c∧a=b:=by
 unfold ifO at h;by_cases z:c
 ·rw[i7 z] at h;exact⟨z,c7 h⟩
 ·rw[i3 z] at h;exact noS h
noncomputable def jl (kind:Nat) (d e:V) (σ:Sto):Option (List V):=match kind with
 |0=>jv d fun n=>ifO (n≤ah∧ -(ah:Int)≤n) ((List.range n.toNat).map fun(k:Nat)=>.int (k:Int))
 |1=>jv d fun a=>jv e fun b=>ifO ((0≤a∧a≤ah)∧b≤ah∧ -(ah:Int)≤b) ((List.range (b - a).toNat).map fun(k:Nat)=>.int (a+(k:Int)))
 |2=>(match d with
   |.str x=>some (x.map fun c=>.str [c])
   |.tup xs=>some xs
   |d=>cb σ d)
 |3=>(cb σ d).map List.reverse
 |_=>none
def jy (d:V) (σ M1:Sto):Prop:=match d with
 |.lref a=>M1 a=σ a
 |_=>True
noncomputable def fY (i:Nat) (live:Sto→Prop) (body:(Nat→V)→Sto→((Nat→V)→Sto→Prop)→((Nat→V)→Sto→Prop)→Prop) (K:(Nat→V)→Sto→Prop):List V→(Nat→V)→Sto→Prop
 |[],m,σ=>K m σ
 |e::es,m,σ=>body (upd m i e) σ (fun m' M1=>live M1∧fY i live body K es m' M1) K
theorem bH {i:Nat} {live:Sto→Prop} {body:(Nat→V)→Sto→((Nat→V)→Sto→Prop)→((Nat→V)→Sto→Prop)→Prop} {K:(Nat→V)→Sto→Prop} {m:Nat→V} {σ:Sto}:fY i live body K [] m σ=K m σ:=rfl
theorem bx {i:Nat} {live:Sto→Prop} {body:(Nat→V)→Sto→((Nat→V)→Sto→Prop)→((Nat→V)→Sto→Prop)→Prop} {K:(Nat→V)→Sto→Prop} {e:V} {es:List V} {m:Nat→V} {σ:Sto}:fY i live body K (e::es) m σ=body (upd m i e) σ (fun m' M1=>live M1∧fY i live body K es m' M1) K:=rfl
noncomputable def qC (test:(Nat→V)→Sto→(Bool→Sto→Prop)→Prop) (body:(Nat→V)→Sto→((Nat→V)→Sto→Prop)→((Nat→V)→Sto→Prop)→Prop) (K:(Nat→V)→Sto→Prop):Nat→(Nat→V)→Sto→Prop
 |0,_,_=>False
 |n+1,m,σ=>test m σ fun t J=>if t=true then body m J (fun m' M1=>qC test body K n m' M1) K else K m J
noncomputable def jQ (live:Sto→Prop) (turn:V→Sto→(Option V→Sto→Prop)→Prop) (K:List V→Sto→Prop):List V→List V→Sto→Prop
 |[],acc,σ=>K acc σ
 |e::es,acc,σ=>turn e σ fun r M1=>live M1∧jQ live turn K es (match r with|some d=>acc++[d]|none=>acc) M1
theorem wz {live:Sto→Prop} {turn:V→Sto→(Option V→Sto→Prop)→Prop} {K:List V→Sto→Prop} {e:V} {es acc:List V} {σ:Sto}:jQ live turn K (e::es) acc σ=turn e σ fun r M1=>live M1∧jQ live turn K es (match r with|some d=>acc++[d]|none=>acc) M1:=rfl
def qK (σ:Sto) (o:AObj) (K:Nat→Sto→Prop):Prop:=∀a,σ a=none→K a (σ.put a o)
def pQ (mu:Bool) (xs:List V) (σ:Sto) (K:Kx):Prop:=xs.length≤ah∧match mu with
 |true=>qK σ (.list xs) fun a M1=>K (.lref a) M1
 |false=>K (.lst xs) σ
noncomputable def lh:Nat→Nat
 |0=>7|1=>5|2=>6|_=>99
noncomputable def gm (g:Nat):Nat:=if 8≤g∧g≤18 then 0 else 9
def Aj (d:V) (σ:Sto):Prop:=match d with
 |.lref a=>pR σ a fun _=>True
 |.bref a=>pV σ a fun _=>True
 |_=>False
def isS (d:V):Prop:=match d with
 |.str _=>True
 |_=>False
section
variable (Sp:Nat→aP) (gv:Nat→List Nat)
mutual
noncomputable def vcX:X→(Nat→V)→Sto→Kx→Ke→Prop
 |.absent,m,σ,K,KE=>K .none σ
 |.var i,m,σ,K,KE=>nj (m i) fun d=>K d σ
 |.lit d,m,σ,K,KE=>K d σ
 |.gstr g,m,σ,K,KE=>K (.str (gv g)) σ
 |.attr o f,m,σ,K,KE=>vcX o m σ (fun d J=>HZ d f J K) KE
 |.bin op a b,m,σ,K,KE=>vcX a m σ (fun M9 J=>vcX b m J (fun M5 M2=>opV op M9 M5 M2 K) KE) KE
 |.neg a,m,σ,K,KE=>vcX a m σ (fun d J=>dz d fun i=>K (.int (-i)) J) KE
 |.not a,m,σ,K,KE=>False
 |.and a b,m,σ,K,KE=>vcX a m σ (fun d J=>ik d fun t=>match t with|true=>vcX b m J K KE|false=>K (.bool false) J) KE
 |.or a b,m,σ,K,KE=>vcX a m σ (fun d J=>ik d fun t=>match t with|false=>vcX b m J K KE|true=>K (.bool true) J) KE
 |.cmp op a b,m,σ,K,KE=>vcX a m σ (fun M9 J=>vcX b m J (fun M5 M2=>cS (fZ M2 op M9 M5) fun r=>K (.bool r) M2) KE) KE
 |.cmp2 Nu Nt a b c,m,σ,K,KE=>vcX a m σ (fun M9 J=>vcX b m J (fun M5 M2=>cS (fZ M2 Nu M9 M5) fun t=>match t with
   |true=>vcX c m M2 (fun Ng ML=>cS (fZ ML Nt M5 Ng) fun r=>K (.bool r) ML) KE
   |false=>K (.bool false) M2) KE) KE
 |.ife c a b,m,σ,K,KE=>vcT c m σ (fun t J=>match t with|true=>vcX a m J K KE|false=>vcX b m J K KE) KE
 |.tup xs,m,σ,K,KE=>jj xs m σ (fun ds J=>ds.length≤100∧K (.tup ds) J) KE
 |.list mu xs,m,σ,K,KE=>jj xs m σ (fun ds J=>pQ mu ds J K) KE
 |.sub a i,m,σ,K,KE=>vcX a m σ (fun M9 J=>vcX i m J (fun M5 M2=>uQ M9 M5 M2 K) KE) KE
 |.slice a lo hi,m,σ,K,KE=>vcX a m σ (fun d J=>vcX lo m J (fun l M2=>vcX hi m M2 (fun h ML=>nA d l h ML K) KE) KE) KE
 |.call g xs,m,σ,K,KE=>jj xs m σ (fun ds J=>Sp g ds J K KE) KE
 |.mcall g o xs,m,σ,K,KE=>vcX o m σ (fun d J=>Ih d fun c a=>c=gm g∧(∃fs,J a=some (.dict fs))∧jj xs m J (fun ds M2=>Sp g (.obj c a::ds) M2 K KE) KE) KE
 |.new c fz xs,m,σ,K,KE=>jj xs m σ (fun ds J=>qK J (.dict fun _=>.unb) fun a M2=>Sp (lh c) (.obj c a::ds) M2 (fun r ML=>HC r (match fz with
     |true=>sU ML a fun fs=>K (.fobj c fs) (ML.del a)
     |false=>K (.obj c a) ML)) KE) KE
 |.isin c a,m,σ,K,KE=>vcX a m σ (fun d J=>Ak d fun c'=>K (.bool (c'==c)) J) KE
 |.blt k a,m,σ,K,KE=>vcX a m σ (fun d J=>xZ k d J K) KE
 |.barr0,m,σ,K,KE=>qK σ (.barr []) fun a M1=>K (.bref a) M1
 |.append o a,m,σ,K,KE=>vcX o m σ (fun M9 J=>Aj M9 J∧vcX a m J (fun M5 M2=>rN M9 M5 M2 K) KE) KE
 |.extend o a,m,σ,K,KE=>vcX o m σ (fun M9 J=>Aj M9 J∧vcX a m J (fun M5 M2=>gL M9 M5 M2 K) KE) KE
 |.pop o,m,σ,K,KE=>vcX o m σ (fun d J=>Lh d J K) KE
 |.frz a,m,σ,K,KE=>vcX a m σ (fun d J=>∃d' M1,Sub M1 J∧Fz J M1 d d'∧K d' M1) KE
 |.lower a,m,σ,K,KE=>vcX a m σ (fun d J=>jk d fun x=>ig x fun c=>c<128∧K (.str [eJ c]) J) KE
 |.split a b,m,σ,K,KE=>vcX a m σ (fun M9 J=>isS M9∧vcX b m J (fun M5 M2=>jk M9 fun x=>jk M5 fun y=>ig y fun c=>x.length<ah∧K (.lst ((bL c x).map .str)) M2) KE) KE
 |.find a b c,m,σ,K,KE=>vcX a m σ (fun M9 J=>isS M9∧vcX b m J (fun M5 M2=>vcX c m M2 (fun Ng ML=>jk M9 fun x=>jk M5 fun y=>ig y fun c=>dz Ng fun i=>(0≤i∧i≤x.length)∧K (.int (bv c (x.drop i.toNat) i.toNat)) ML) KE) KE) KE
 |.index a b,m,σ,K,KE=>vcX a m σ (fun M9 J=>isS M9∧vcX b m J (fun M5 M2=>jk M9 fun x=>jk M5 fun y=>ig y fun c=>x.contains c=true∧K (.int (bv c x 0)) M2) KE) KE
 |.esc gl a,m,σ,K,KE=>vcX a m σ (fun d J=>jk d fun x=>ig x fun c=>cS (bP c) fun i=>K (.int i) J) KE
 |.inEsc a,m,σ,K,KE=>vcX a m σ (fun d J=>match d with|.str [c]=>K (.bool (bP c).isSome) J|.str []=>K (.bool false) J|_=>False) KE
 |.comp mu elt cond i kind e f,m,σ,K,KE=>vcX e m σ (fun d J=>vcX f m J (fun d' M2=>cS (jl kind d d' M2) fun es=>jQ (jy d M2) (fun v ML k=>vcT cond (upd m i v) ML (fun t MQ=>match t with
     |true=>vcX elt (upd m i v) MQ (fun r MV=>k (some r) MV) (fun _ _ _=>False)
     |false=>k none MQ) (fun _ _ _=>False)) (fun acc ML=>pQ mu acc ML K) es [] M2) KE) KE
noncomputable def jj:XL→(Nat→V)→Sto→(List V→Sto→Prop)→Ke→Prop
 |.nil,m,σ,K,KE=>K [] σ
 |.cons a r,m,σ,K,KE=>vcX a m σ (fun d J=>jj r m J (fun ds M2=>K (d::ds) M2) KE) KE
noncomputable def vcT:X→(Nat→V)→Sto→(Bool→Sto→Prop)→Ke→Prop
 |.absent,m,σ,K,KE=>K true σ
 |.not a,m,σ,K,KE=>vcT a m σ (fun t J=>K (!t) J) KE
 |.and a b,m,σ,K,KE=>vcT a m σ (fun t J=>match t with|true=>vcT b m J K KE|false=>K false J) KE
 |.or a b,m,σ,K,KE=>vcT a m σ (fun t J=>match t with|false=>vcT b m J K KE|true=>K true J) KE
 |.cmp op a b,m,σ,K,KE=>vcX a m σ (fun M9 J=>vcX b m J (fun M5 M2=>cS (fZ M2 op M9 M5) fun r=>K r M2) KE) KE
 |.cmp2 Nu Nt a b c,m,σ,K,KE=>vcX a m σ (fun M9 J=>vcX b m J (fun M5 M2=>cS (fZ M2 Nu M9 M5) fun t=>match t with
   |true=>vcX c m M2 (fun Ng ML=>cS (fZ ML Nt M5 Ng) fun r=>K r ML) KE
   |false=>K false M2) KE) KE
 |.var i,m,σ,K,KE=>ik (m i) fun b=>K b σ
 |.inEsc a,m,σ,K,KE=>vcX a m σ (fun d J=>match d with|.str [c]=>K (bP c).isSome J|.str []=>K false J|_=>False) KE
 |.call g xs,m,σ,K,KE=>jj xs m σ (fun ds J=>Sp g ds J (fun d M2=>ik d fun b=>K b M2) KE) KE
 |.isin c a,m,σ,K,KE=>vcX a m σ (fun d J=>Ak d fun c'=>K (c'==c) J) KE
 |.mcall g o xs,m,σ,K,KE=>vcX o m σ (fun d J=>Ih d fun c a=>c=gm g∧(∃fs,J a=some (.dict fs))∧jj xs m J (fun ds M2=>Sp g (.obj c a::ds) M2 (fun d ML=>ik d fun b=>K b ML) KE) KE) KE
 |_,m,σ,K,KE=>False
end
def zN (o:V) (f:Nat) (d:V) (σ:Sto) (K:Sto→Prop):Prop:=match o with
 |.obj c a=>nj d fun d=>sU σ a fun fs=>K (σ.put a (.dict (upd fs f d)))
 |_=>False
noncomputable def bi:List Nat→List V→(Nat→V)→Option (Nat→V)
 |[],[],m=>some m
 |i::is,d::ds,m=>bi is ds (upd m i d)
 |_,_,_=>none
noncomputable def vcS:S→(Nat→V)→Sto→((Nat→V)→Sto→Prop)→Kx→((Nat→V)→Sto→Prop)→((Nat→V)→Sto→Prop)→((Nat→V)→Ke)→Prop
 |.assign i e,m,σ,Kn,Kr,Kb,Kc,KE=>vcX Sp gv e m σ (fun d J=>Kn (upd m i d) J) (KE m)
 |.assignT is e,m,σ,Kn,Kr,Kb,Kc,KE=>vcX Sp gv e m σ (fun d J=>zK d fun ds=>cS (bi is ds m) fun m'=>Kn m' J) (KE m)
 |.setattr o f e,m,σ,Kn,Kr,Kb,Kc,KE=>vcX Sp gv e m σ (fun d J=>vcX Sp gv o m J (fun od M2=>zN od f d M2 (Kn m)) (KE m)) (KE m)
 |.expr e,m,σ,Kn,Kr,Kb,Kc,KE=>vcX Sp gv e m σ (fun _ J=>Kn m J) (KE m)
 |.ite c a b,m,σ,Kn,Kr,Kb,Kc,KE=>vcT Sp gv c m σ (fun t J=>match t with|true=>vcS a m J Kn Kr Kb Kc KE|false=>vcS b m J Kn Kr Kb Kc KE) (KE m)
 |.while_ c b,m,σ,Kn,Kr,Kb,Kc,KE=>∃n,qC (fun m σ k=>vcT Sp gv c m σ k (KE m)) (fun m σ kn kb=>vcS b m σ kn Kr kb kn KE) Kn n m σ
 |.for_ i kind e f b,m,σ,Kn,Kr,Kb,Kc,KE=>vcX Sp gv e m σ (fun d J=>vcX Sp gv f m J (fun d' M2=>cS (jl kind d d' M2) fun es=>fY i (jy d M2) (fun m σ kn kb=>vcS b m σ kn Kr kb kn KE) Kn es m M2) (KE m)) (KE m)
 |.ret e,m,σ,Kn,Kr,Kb,Kc,KE=>vcX Sp gv e m σ (fun d J=>Kr d J) (KE m)
 |.raise N6 N7 Na,m,σ,Kn,Kr,Kb,Kc,KE=>vcX Sp gv N6 m σ (fun M9 J=>vcX Sp gv N7 m J (fun M5 M2=>vcX Sp gv Na m M2 (fun Ng ML=>jk M9 fun _=>dz M5 fun r=>dz Ng fun c=>KE m r c ML) (KE m)) (KE m)) (KE m)
 |.try_ b i h,m,σ,Kn,Kr,Kb,Kc,KE=>vcS b m σ Kn Kr Kb Kc (fun m' r c M1=>vcS h (upd m' i (.exc r c)) M1 (fun _ _=>False) Kr (fun _ _=>False) (fun _ _=>False) (fun _ _ _ _=>False))
 |.cont,m,σ,Kn,Kr,Kb,Kc,KE=>Kc m σ
 |.brk,m,σ,Kn,Kr,Kb,Kc,KE=>Kb m σ
 |.skip,m,σ,Kn,Kr,Kb,Kc,KE=>Kn m σ
 |.dead,m,σ,Kn,Kr,Kb,Kc,KE=>False
 |.seq a b,m,σ,Kn,Kr,Kb,Kc,KE=>vcS a m σ (fun m' M1=>vcS b m' M1 Kn Kr Kb Kc KE) Kr Kb Kc KE
end
end
section
set_option maxHeartbeats 4000000
noncomputable def vsl (c:List Nat) (l:List String):List (Nat×PySem.Str×Bool):=l.zipIdx.map fun x=>(x.2,PySem.Str.ofString x.1,c.contains x.2)
noncomputable abbrev J0:=X.var 0
noncomputable abbrev J1:=X.var 1
noncomputable abbrev J2:=X.var 2
noncomputable abbrev J3:=X.var 3
noncomputable abbrev J4:=X.var 4
noncomputable abbrev J5:=X.var 5
noncomputable abbrev J6:=X.var 6
noncomputable abbrev J7:=X.var 7
noncomputable abbrev J8:=X.var 8
noncomputable abbrev J9:=X.var 9
noncomputable abbrev J10:=X.var 10
noncomputable abbrev J11:=X.var 11
noncomputable abbrev J12:=X.var 12
noncomputable abbrev J13:=X.var 13
noncomputable abbrev J14:=X.var 14
noncomputable abbrev Ji (n:Int):=X.lit (.int n)
noncomputable abbrev Js (l:List Nat):=X.lit (.str l)
noncomputable abbrev Jn:=X.lit .none
noncomputable abbrev Je:=X.lit (.str [])
noncomputable abbrev Js1 (a0:S):S:=.seq a0 .skip
noncomputable abbrev Js2 (a0 a1:S):S:=.seq a0 (.seq a1 .skip)
noncomputable abbrev Js3 (a0 a1 a2:S):S:=.seq a0 (.seq a1 (.seq a2 .skip))
noncomputable abbrev Js4 (a0 a1 a2 a3:S):S:=.seq a0 (.seq a1 (.seq a2 (.seq a3 .skip)))
noncomputable abbrev Js5 (a0 a1 a2 a3 a4:S):S:=.seq a0 (.seq a1 (.seq a2 (.seq a3 (.seq a4 .skip))))
noncomputable abbrev Js6 (a0 a1 a2 a3 a4 a5:S):S:=.seq a0 (.seq a1 (.seq a2 (.seq a3 (.seq a4 (.seq a5 .skip)))))
noncomputable abbrev Js7 (a0 a1 a2 a3 a4 a5 a6:S):S:=.seq a0 (.seq a1 (.seq a2 (.seq a3 (.seq a4 (.seq a5 (.seq a6 .skip))))))
noncomputable abbrev Js8 (a0 a1 a2 a3 a4 a5 a6 a7:S):S:=.seq a0 (.seq a1 (.seq a2 (.seq a3 (.seq a4 (.seq a5 (.seq a6 (.seq a7 .skip)))))))
noncomputable abbrev MJ (a0 a1 a2 a3 a4 a5 a6 a7 a8 a9:S):S:=.seq a0 (.seq a1 (.seq a2 (.seq a3 (.seq a4 (.seq a5 (.seq a6 (.seq a7 (.seq a8 (.seq a9 .skip)))))))))
noncomputable abbrev Jk1 (a0:X):XL:=.cons a0 .nil
noncomputable abbrev Jk2 (a0 a1:X):XL:=.cons a0 (.cons a1 .nil)
noncomputable abbrev Jk3 (a0 a1 a2:X):XL:=.cons a0 (.cons a1 (.cons a2 .nil))
noncomputable abbrev Jk4 (a0 a1 a2 a3:X):XL:=.cons a0 (.cons a1 (.cons a2 (.cons a3 .nil)))
noncomputable abbrev Jk5 (a0 a1 a2 a3 a4:X):XL:=.cons a0 (.cons a1 (.cons a2 (.cons a3 (.cons a4 .nil))))
noncomputable abbrev Jk6 (a0 a1 a2 a3 a4 a5:X):XL:=.cons a0 (.cons a1 (.cons a2 (.cons a3 (.cons a4 (.cons a5 .nil)))))
noncomputable abbrev Jk7 (a0 a1 a2 a3 a4 a5 a6:X):XL:=.cons a0 (.cons a1 (.cons a2 (.cons a3 (.cons a4 (.cons a5 (.cons a6 .nil))))))
noncomputable abbrev Jk9 (a0 a1 a2 a3 a4 a5 a6 a7 a8:X):XL:=.cons a0 (.cons a1 (.cons a2 (.cons a3 (.cons a4 (.cons a5 (.cons a6 (.cons a7 (.cons a8 .nil))))))))
noncomputable abbrev LB (a0 a1 a2 a3 a4 a5 a6 a7 a8 a9:X):XL:=.cons a0 (.cons a1 (.cons a2 (.cons a3 (.cons a4 (.cons a5 (.cons a6 (.cons a7 (.cons a8 (.cons a9 .nil)))))))))
noncomputable abbrev MK (a0 a1 a2 a3 a4 a5 a6 a7 a8 a9 a10 a11 a12 a13 a14 a15 a16 a17:X):XL:=.cons a0 (.cons a1 (.cons a2 (.cons a3 (.cons a4 (.cons a5 (.cons a6 (.cons a7 (.cons a8 (.cons a9 (.cons a10 (.cons a11 (.cons a12 (.cons a13 (.cons a14 (.cons a15 (.cons a16 (.cons a17 .nil)))))))))))))))))
noncomputable def yf:=vsl [] ["text","found","sign","point"]
noncomputable def yz:S:=Js3 (.assign 1 .barr0) (.for_ 2 2 J0 .absent (Js3 (.assign 3 (.blt 1 J2)) (.ite (.cmp2 .le .lt (Ji 55296) J3 (Ji 57344)) .dead .skip) (.ite (.cmp .lt J3 (Ji 128)) (Js1 (.expr (.append J1 J3))) (Js1 (.ite (.cmp .lt J3 (Ji 2048)) (Js1 (.expr (.extend J1 (.list false (Jk2 (.bin .bor (Ji 192) (.bin .shr J3 (Ji 6))) (.bin .bor (Ji 128) (.bin .band J3 (Ji 63)))))))) (Js1 (.ite (.cmp .lt J3 (Ji 65536)) (Js1 (.expr (.extend J1 (.list false (Jk3 (.bin .bor (Ji 224) (.bin .shr J3 (Ji 12))) (.bin .bor (Ji 128) (.bin .band (.bin .shr J3 (Ji 6)) (Ji 63))) (.bin .bor (Ji 128) (.bin .band J3 (Ji 63)))))))) (Js1 (.expr (.extend J1 (.list false (Jk4 (.bin .bor (Ji 240) (.bin .shr J3 (Ji 18))) (.bin .bor (Ji 128) (.bin .band (.bin .shr J3 (Ji 12)) (Ji 63))) (.bin .bor (Ji 128) (.bin .band (.bin .shr J3 (Ji 6)) (Ji 63))) (.bin .bor (Ji 128) (.bin .band J3 (Ji 63))))))))))))))) (.ret (.frz (.blt 3 J1)))
noncomputable def rT:=vsl [] ["self","sort","text","value","row","column"]
noncomputable def se:S:=Js5 (.setattr J0 5 J1) (.setattr J0 0 J2) (.setattr J0 6 J3) (.setattr J0 2 J4) (.setattr J0 3 J5)
noncomputable def pD:=vsl [] ["self","items","row","column"]
noncomputable def pF:S:=Js3 (.setattr J0 7 J1) (.setattr J0 2 J2) (.setattr J0 3 J3)
noncomputable def gR:=vsl [] ["item","sort","text"]
noncomputable def oz:S:=Js1 (.ret (.and (.isin 1 J0) (.and (.cmp .eq (.attr J0 5) J1) (.or (.cmp .isN J2 Jn) (.cmp .eq (.attr J0 0) J2)))))
noncomputable def vE:=vsl [] ["text","base","digits","found","was_digit","sign"]
noncomputable def gS:S:=Js3 (.assignT [2,3,4] (.tup (Jk3 (.ife (.cmp .eq J1 (Ji 16)) (.gstr 1) (.gstr 0)) (Ji 0) (.lit (.bool false))))) (.for_ 5 2 J0 .absent (Js1 (.ite (.cmp .eq J5 (Js [95])) (Js2 (.ite (.not J4) (Js1 (.ret Jn)) .skip) (.assign 4 (.lit (.bool false)))) (Js1 (.ite (.cmp .inn J5 J2) (Js2 (.assign 3 (.bin .add (.bin .mul J3 J1) (.index (.gstr 1) (.lower J5)))) (.assign 4 (.lit (.bool true)))) (Js1 (.ret Jn))))))) (.ret (.ife J4 J3 Jn))
noncomputable def uq:=vsl [] ["text","body","found"]
noncomputable def uB:S:=Js3 (.assign 1 (.ife (.cmp .inn (.slice J0 .absent (Ji 1)) (.tup (Jk2 (Js [43]) (Js [45])))) (.slice J0 (Ji 1) .absent) J0)) (.assign 2 (.ife (.cmp .eq (.slice J1 .absent (Ji 2)) (Js [48,120])) (.call 3 (Jk2 (.slice J1 (Ji 2) .absent) (Ji 16))) (.call 3 (Jk2 J1 (Ji 10))))) (.ret (.ife (.cmp .isN J2 Jn) Jn (.ife (.cmp .eq (.slice J0 .absent (Ji 1)) (Js [45])) (.neg J2) J2)))
noncomputable def pC:=vsl [] ["text","number"]
noncomputable def pE:S:=Js5 (.assign 1 (.call 4 (Jk1 J0))) (.ite (.cmp .notN J1 Jn) (Js1 (.ret (.tup (Jk2 (Js [105,110,116]) J1)))) .skip) (.ite (.and (.cmp .eq (.sub J0 (Ji 0)) (Js [36])) (.cmp .gt (.blt 0 J0) (Ji 1))) (Js1 (.ret (.tup (Jk2 (Js [105,100]) J0)))) .skip) (.ite (.cmp .inn (.sub J0 (Ji 0)) (.gstr 2)) (Js1 (.ret (.tup (Jk2 (Js [119,111,114,100]) J0)))) .skip) (.ret (.tup (Jk2 (Js [114,101,115,101,114,118,101,100]) J0)))
noncomputable def rU:=vsl [] ["self","text"]
noncomputable def sf:S:=Js5 (.setattr J0 0 J1) (.setattr J0 1 (Ji 0)) (.setattr J0 2 (Ji 1)) (.setattr J0 3 (Ji 1)) (.setattr J0 4 (.list true .nil))
noncomputable def BH:=vsl [] ["self"]
noncomputable def Cd:S:=Js1 (.ret (.slice (.attr J0 0) (.attr J0 1) (.bin .add (.attr J0 1) (Ji 1))))
noncomputable def vG:=vsl [] ["self","word"]
noncomputable def vV:S:=Js1 (.ret (.cmp .eq (.slice (.attr J0 0) (.attr J0 1) (.bin .add (.attr J0 1) (.blt 0 J1))) J1))
noncomputable def BI:=vsl [] ["self","why"]
noncomputable def Ce:S:=Js1 (.raise J1 (.attr J0 2) (.attr J0 3))
noncomputable def kl:=vsl [] ["self","many","turn","sign"]
noncomputable def iu:S:=Js1 (.for_ 2 0 J1 .absent (Js3 (.assign 3 (.sub (.attr J0 0) (.attr J0 1))) (.setattr J0 1 (.bin .add (.attr J0 1) (Ji 1))) (.ite (.or (.cmp .eq J3 (Js [10])) (.and (.cmp .eq J3 (Js [13])) (.cmp .ne (.mcall 8 J0 .nil) (Js [10])))) (Js2 (.setattr J0 2 (.bin .add (.attr J0 2) (Ji 1))) (.setattr J0 3 (Ji 1))) (Js1 (.setattr J0 3 (.bin .add (.attr J0 3) (Ji 1)))))))
noncomputable def rP:=vsl [] ["self"]
noncomputable def gU:S:=Js1 (.while_ (.and (.cmp .lt (.attr J0 1) (.blt 0 (.attr J0 0))) (.cmp .nin (.mcall 8 J0 .nil) (.tup (Jk2 (Js [10]) (Js [13]))))) (Js1 (.expr (.mcall 11 J0 .nil))))
noncomputable def oX:=vsl [] ["self","row","column","depth"]
noncomputable def dS:S:=Js3 (.assignT [1,2,3] (.tup (Jk3 (.attr J0 2) (.attr J0 3) (Ji 1)))) (.expr (.mcall 11 J0 (Jk1 (Ji 2)))) (.while_ (.cmp .gt J3 (Ji 0)) (Js2 (.ite (.cmp .ge (.attr J0 1) (.blt 0 (.attr J0 0))) (Js1 (.raise (Js [117,110,99,108,111,115,101,100,32,99,111,109,109,101,110,116]) J1 J2)) .skip) (.ite (.mcall 9 J0 (Jk1 (Js [40,59]))) (Js2 (.assign 3 (.bin .add J3 (Ji 1))) (.expr (.mcall 11 J0 (Jk1 (Ji 2))))) (Js1 (.ite (.mcall 9 J0 (Jk1 (Js [59,41]))) (Js2 (.assign 3 (.bin .sub J3 (Ji 1))) (.expr (.mcall 11 J0 (Jk1 (Ji 2))))) (Js1 (.expr (.mcall 11 J0 .nil))))))))
noncomputable def oY:=vsl [] ["self","begin","number"]
noncomputable def dT:S:=MJ (.expr (.mcall 11 J0 .nil)) (.ite (.cmp .ne (.mcall 8 J0 .nil) (Js [123])) (Js1 (.expr (.mcall 10 J0 (Jk1 (Js [105,108,108,101,103,97,108,32,101,115,99,97,112,101]))))) .skip) (.expr (.mcall 11 J0 .nil)) (.assign 1 (.attr J0 1)) (.while_ (.and (.cmp .ne (.mcall 8 J0 .nil) Je) (.or (.cmp .inn (.mcall 8 J0 .nil) (.gstr 1)) (.cmp .eq (.mcall 8 J0 .nil) (Js [95])))) (Js1 (.expr (.mcall 11 J0 .nil)))) (.assign 2 (.call 3 (Jk2 (.slice (.attr J0 0) J1 (.attr J0 1)) (Ji 16)))) (.ite (.or (.cmp .isN J2 Jn) (.cmp .ne (.mcall 8 J0 .nil) (Js [125]))) (Js1 (.expr (.mcall 10 J0 (Jk1 (Js [105,108,108,101,103,97,108,32,101,115,99,97,112,101]))))) .skip) (.ite (.or (.cmp .ge J2 (Ji 1114112)) (.cmp2 .le .lt (Ji 55296) J2 (Ji 57344))) (Js1 (.expr (.mcall 10 J0 (Jk1 (Js [109,97,108,102,111,114,109,101,100,32,85,84,70,45,56,32,101,110,99,111,100,105,110,103]))))) .skip) (.expr (.mcall 11 J0 .nil)) (.ret (.call 1 (Jk1 (.blt 2 J2))))
noncomputable def vH:=vsl [] ["self","sign","both"]
noncomputable def fB:S:=Js8 (.expr (.mcall 11 J0 .nil)) (.assign 1 (.mcall 8 J0 .nil)) (.ite (.inEsc J1) (Js2 (.expr (.mcall 11 J0 .nil)) (.ret (.blt 3 (.list false (Jk1 (.esc true J1)))))) .skip) (.ite (.cmp .eq J1 (Js [117])) (Js1 (.ret (.mcall 14 J0 .nil))) .skip) (.assign 2 (.slice (.attr J0 0) (.attr J0 1) (.bin .add (.attr J0 1) (Ji 2)))) (.ite (.or (.cmp .lt (.blt 0 J2) (Ji 2)) (.or (.cmp .nin (.sub J2 (Ji 0)) (.gstr 1)) (.cmp .nin (.sub J2 (Ji 1)) (.gstr 1)))) (Js1 (.expr (.mcall 10 J0 (Jk1 (Js [105,108,108,101,103,97,108,32,101,115,99,97,112,101]))))) .skip) (.expr (.mcall 11 J0 (Jk1 (Ji 2)))) (.ret (.blt 3 (.list false (Jk1 (.call 3 (Jk2 J2 (Ji 16)))))))
noncomputable def vF:=vsl [] ["self","row","column","found","sign"]
noncomputable def bE:S:=Js5 (.assignT [1,2,3] (.tup (Jk3 (.attr J0 2) (.attr J0 3) .barr0))) (.expr (.mcall 11 J0 .nil)) (.while_ (.cmp .ne (.mcall 8 J0 .nil) (Js [34])) (Js5 (.assign 4 (.mcall 8 J0 .nil)) (.ite (.or (.cmp .eq J4 Je) (.cmp .inn J4 (.tup (Jk2 (Js [10]) (Js [13]))))) (Js1 (.raise (Js [117,110,99,108,111,115,101,100,32,115,116,114,105,110,103]) J1 J2)) .skip) (.ite (.or (.cmp .lt J4 (Js [32])) (.cmp .eq J4 (Js [127]))) (Js1 (.expr (.mcall 10 J0 (Jk1 (Js [105,108,108,101,103,97,108,32,99,111,110,116,114,111,108,32,99,104,97,114,97,99,116,101,114,32,105,110,32,115,116,114,105,110,103]))))) .skip) (.ite (.cmp2 .le .lt (Ji 55296) (.blt 1 J4) (Ji 57344)) (Js1 (.expr (.mcall 10 J0 (Jk1 (Js [109,97,108,102,111,114,109,101,100,32,85,84,70,45,56,32,101,110,99,111,100,105,110,103]))))) .skip) (.ite (.cmp .eq J4 (Js [92])) (Js1 (.expr (.extend J3 (.mcall 15 J0 .nil)))) (Js2 (.expr (.extend J3 (.call 1 (Jk1 J4)))) (.expr (.mcall 11 J0 .nil)))))) (.expr (.mcall 11 J0 .nil)) (.ret (.frz (.blt 3 J3)))
noncomputable def EG:=vsl [] ["self","begin","row","column","octets","strings","is_string","text","sort","value"]
noncomputable def dH:S:=Js6 (.assignT [1,2,3,4,5] (.tup (Jk5 (.attr J0 1) (.attr J0 2) (.attr J0 3) (.lit (.bytes [])) (Ji 0)))) (.while_ (.and (.cmp .ne (.mcall 8 J0 .nil) Je) (.or (.cmp .eq (.mcall 8 J0 .nil) (Js [34])) (.cmp .inn (.mcall 8 J0 .nil) (.gstr 3)))) (Js1 (.ite (.cmp .eq (.mcall 8 J0 .nil) (Js [34])) (Js2 (.assignT [4,5] (.tup (Jk2 (.mcall 16 J0 .nil) (.bin .add J5 (Ji 1))))) (.assign 6 (.lit (.bool true)))) (Js2 (.expr (.mcall 11 J0 .nil)) (.assign 6 (.lit (.bool false))))))) (.assign 7 (.slice (.attr J0 0) J1 (.attr J0 1))) (.assignT [8,9] (.ife (.and (.cmp .eq J5 (Ji 1)) J6) (.tup (Jk2 (Js [115,116,114,105,110,103]) J4)) (.tup (Jk2 (Js [114,101,115,101,114,118,101,100]) J7)))) (.ite (.cmp .eq J5 (Ji 0)) (Js1 (.assignT [8,9] (.call 19 (Jk1 J7)))) (Js1 (.ite (.and (.cmp .eq J8 (Js [115,116,114,105,110,103])) (.cmp .ne (.sub J7 (Ji 0)) (Js [34]))) (Js1 (.assignT [8,9] (.tup (Jk2 (Js [114,101,115,101,114,118,101,100]) J7)))) .skip))) (.expr (.append (.attr J0 4) (.new 1 true (Jk5 J8 J7 J9 J2 J3))))
noncomputable def yg:=vsl [] ["self","sign"]
noncomputable def cj:S:=Js2 (.while_ (.cmp .lt (.attr J0 1) (.blt 0 (.attr J0 0))) (Js2 (.assign 1 (.mcall 8 J0 .nil)) (.ite (.cmp .inn J1 (.gstr 5)) (Js1 (.expr (.mcall 11 J0 .nil))) (Js1 (.ite (.mcall 9 J0 (Jk1 (Js [59,59]))) (Js1 (.expr (.mcall 12 J0 .nil))) (Js1 (.ite (.mcall 9 J0 (Jk1 (Js [40,59]))) (Js1 (.expr (.mcall 13 J0 .nil))) (Js1 (.ite (.cmp .inn J1 (Js [40,41])) (Js2 (.expr (.append (.attr J0 4) (.new 1 true (Jk5 J1 J1 J1 (.attr J0 2) (.attr J0 3))))) (.expr (.mcall 11 J0 .nil))) (Js1 (.ite (.cmp .inn J1 (.gstr 4)) (Js2 (.expr (.append (.attr J0 4) (.new 1 true (Jk5 (Js [114,101,115,101,114,118,101,100]) J1 J1 (.attr J0 2) (.attr J0 3))))) (.expr (.mcall 11 J0 .nil))) (Js1 (.ite (.or (.cmp .eq J1 (Js [34])) (.cmp .inn J1 (.gstr 3))) (Js1 (.expr (.mcall 17 J0 .nil))) (Js1 (.expr (.mcall 10 J0 (Jk1 (Js [105,108,108,101,103,97,108,32,99,104,97,114,97,99,116,101,114])))))))))))))))))) (.ret (.attr J0 4))
noncomputable def BG:=vsl [] ["text"]
noncomputable def Cc:S:=Js1 (.ret (.frz (.mcall 18 (.new 0 false (Jk1 J0)) .nil)))
noncomputable def EF:=vsl [] ["text","found","opened","token","item","goal"]
noncomputable def rk:S:=Js4 (.assignT [1,2] (.tup (Jk2 (.list true .nil) (.list true .nil)))) (.for_ 3 2 (.call 20 (Jk1 J0)) .absent (Js1 (.ite (.cmp .eq (.attr J3 5) (Js [40])) (Js1 (.expr (.append J2 (.new 2 true (Jk3 (.list true .nil) (.attr J3 2) (.attr J3 3)))))) (Js4 (.assign 4 J3) (.ite (.cmp .eq (.attr J3 5) (Js [41])) (Js2 (.ite (.cmp .eq (.blt 0 J2) (Ji 0)) (Js1 (.raise (Js [117,110,101,120,112,101,99,116,101,100,32,116,111,107,101,110]) (.attr J3 2) (.attr J3 3))) .skip) (.assign 4 (.frz (.pop J2)))) .skip) (.assign 5 (.ife (.cmp .gt (.blt 0 J2) (Ji 0)) (.attr (.sub J2 (.neg (Ji 1))) 7) J1)) (.expr (.append J5 J4)))))) (.ite (.cmp .gt (.blt 0 J2) (Ji 0)) (Js1 (.raise (Js [117,110,101,120,112,101,99,116,101,100,32,101,110,100]) (.attr (.sub J2 (.neg (Ji 1))) 2) (.attr (.sub J2 (.neg (Ji 1))) 3))) .skip) (.ret (.frz J1))
noncomputable def BJ:=vsl [] ["token","bits","half","most"]
noncomputable def Cf:S:=Js5 (.ite (.not (.call 2 (Jk2 J0 (Js [105,110,116])))) (Js1 (.raise (Js [117,110,101,120,112,101,99,116,101,100,32,116,111,107,101,110]) (.attr J0 2) (.attr J0 3))) .skip) (.assign 2 (.bin .shl (Ji 1) (.bin .sub J1 (Ji 1)))) (.assign 3 (.ife (.cmp .inn (.sub (.attr J0 0) (Ji 0)) (Js [43,45])) J2 (.bin .mul (Ji 2) J2))) (.ite (.not (.cmp2 .le .lt (.neg J2) (.attr J0 6) J3)) (Js1 (.raise (Js [99,111,110,115,116,97,110,116,32,111,117,116,32,111,102,32,114,97,110,103,101]) (.attr J0 2) (.attr J0 3))) .skip) (.ret (.ife (.cmp .ge (.attr J0 6) J2) (.bin .sub (.attr J0 6) (.bin .mul (Ji 2) J2)) (.attr J0 6)))
noncomputable def BE:=vsl [] ["token"]
noncomputable def Cb:S:=Js3 (.ite (.or (.not (.call 2 (Jk2 J0 (Js [105,110,116])))) (.cmp .inn (.sub (.attr J0 0) (Ji 0)) (Js [43,45]))) (Js1 (.raise (Js [117,110,101,120,112,101,99,116,101,100,32,116,111,107,101,110]) (.attr J0 2) (.attr J0 3))) .skip) (.ite (.cmp .ge (.attr J0 6) (.bin .pow (Ji 2) (Ji 32))) (Js1 (.raise (Js [105,51,50,32,99,111,110,115,116,97,110,116,32,111,117,116,32,111,102,32,114,97,110,103,101]) (.attr J0 2) (.attr J0 3))) .skip) (.ret (.attr J0 6))
noncomputable def rQ:=vsl [] ["words","numbers","strings","comments","others","wrong"]
noncomputable def rZ:S:=Js7 (.assign 0 (.list false (MK (Js [40]) (Js [41]) (Js [97]) (Js [105,51,50,46,97,100,100]) (Js [111,102,102,115,101,116,61,56]) (Js [36]) (Js [36,120]) (Js [36,97,33]) (Js [48]) (Js [55]) (Js [49,50]) (Js [95]) (Js [48,120]) (Js [102]) (Js [70]) (Js [45]) (Js [43]) (Js [49,95,48])))) (.assign 1 (.list false (LB (Js [52,50,57,52,57,54,55,50,57,53]) (Js [52,50,57,52,57,54,55,50,57,54]) (Js [45,50,49,52,55,52,56,51,54,52,57]) (Js [45,48,120,56,48,48,48,95,48,48,48,48]) (Js [43,50,49,52,55,52,56,51,54,52,56]) (Js [50,49,52,55,52,56,51,54,52,56]) (Js [48,120,55,102,102,102,95,102,102,102,102,95,102,102,102,102,95,102,102,102,102]) (Js [45,57,50,50,51,51,55,50,48,51,54,56,53,52,55,55,53,56,48,56]) (Js [49,56,52,52,54,55,52,52,48,55,51,55,48,57,53,53,49,54,49,54]) (Js [43,57,50,50,51,51,55,50,48,51,54,56,53,52,55,55,53,56,48,56])))) (.assign 2 (.list false (Jk9 (Js [34,34]) (Js [34,97,98,34]) (Js [34,92,110,92,116,92,114,34]) (Js [34,92,48,48,92,102,70,34]) (Js [34,92,117,123,50,48,95,97,67,125,34]) (Js [34,92,34,92,39,92,92,34]) (Js [34,40,59,233,59,59,34]) (Js [34,8364,128512,34]) (Js [34,92,117,123,49,48,70,70,70,70,125,34])))) (.assign 3 (.list false (Jk6 (Js [59,59,32,34,40,59,10]) (Js [59,59]) (Js [40,59]) (Js [59,41]) (Js [40,59,32,40,59,32,59,41,32,59,59,32,59,41]) (Js [40,59,10,59,41])))) (.assign 4 (.list false (Jk7 (Js [9]) (Js [13]) (Js [13,10]) (Js [44]) (Js [91]) (Js [65]) (Js [61])))) (.assign 5 (.list false (LB (Js [34]) (Js [92]) (Js [233]) (Js [34,92,113,34]) (Js [34,92,117,123,100,56,48,48,125,34]) (Js [34,92,117,123,49,49,95,48,48,48,48,125,34]) (Js [34,92,117,123,125,34]) (Js [34,9,34]) (Js [34,127,34]) (Js [34,92,52,34])))) (.ret (.bin .add (.bin .add (.bin .add (.bin .add (.bin .add J0 J1) J2) J3) J4) J5))
noncomputable def vK:=vsl [] ["script","pieces","found","x"]
noncomputable def jG:S:=Js3 (.assignT [1,2] (.tup (Jk2 (.call 24 .nil) Je))) (.for_ 3 2 (.ife (.cmp .ne J0 (.list false .nil)) (.slice J0 .absent (Ji 32)) (.list false (Jk4 (Ji 0) (Ji 67) (Ji 86) (Ji 1)))) .absent (Js1 (.assign 2 (.bin .add (.bin .add J2 (.sub J1 (.bin .mod J3 (Ji 60)))) (.sub (.list false (Jk3 Je (Js [32]) (Js [10]))) (.bin .mod (.bin .fdiv J3 (Ji 60)) (Ji 3))))))) (.ret J2)
noncomputable def uv:=vsl [] ["text","marks","mode","depth","skip","fault","at","sign","both"]
noncomputable def du:S:=Js3 (.assignT [1,2,3,4,5] (.tup (Jk5 (.list true .nil) Je (Ji 0) (Ji 0) (.list true .nil)))) (.for_ 6 0 (.blt 0 J0) .absent (Js5 (.assignT [7,8] (.tup (Jk2 (.sub J0 J6) (.slice J0 J6 (.bin .add J6 (Ji 2)))))) (.ite (.cmp .gt J4 (Ji 0)) (Js4 (.assign 4 (.bin .sub J4 (Ji 1))) (.expr (.append J1 (.sub J1 (.neg (Ji 1))))) (.ite (.and (.cmp .eq J3 (Ji 0)) (.cmp .eq J2 (Js [98,108,111,99,107]))) (Js1 (.assign 2 Je)) .skip) .cont) .skip) (.ite (.and (.cmp .eq J2 (Js [108,105,110,101])) (.cmp .inn J7 (Js [13,10]))) (Js1 (.assign 2 Je)) .skip) (.ite (.cmp .eq J2 Je) (Js1 (.ite (.cmp .eq J8 (Js [59,59])) (Js1 (.assign 2 (Js [108,105,110,101]))) (Js1 (.ite (.cmp .eq J8 (Js [40,59])) (Js2 (.assignT [2,3,4] (.tup (Jk3 (Js [98,108,111,99,107]) (Ji 1) (Ji 1)))) (.expr (.append J5 J6))) (Js1 (.ite (.cmp .eq J7 (Js [34])) (Js4 (.assign 2 (Js [115,116,114,105,110,103])) (.expr (.append J5 J6)) (.expr (.append J1 (Js [113]))) .cont) .skip)))))) (Js1 (.ite (.and (.cmp .eq J2 (Js [98,108,111,99,107])) (.cmp .inn J8 (.tup (Jk2 (Js [40,59]) (Js [59,41]))))) (Js2 (.assignT [3,4] (.tup (Jk2 (.bin .add J3 (.ife (.cmp .eq J7 (Js [40])) (Ji 1) (.neg (Ji 1)))) (Ji 1)))) (.ite (.cmp .eq J3 (Ji 0)) (Js1 (.expr (.pop J5))) .skip)) (Js1 (.ite (.cmp .eq J2 (Js [115,116,114,105,110,103])) (Js3 (.expr (.append J1 (Js [115]))) (.ite (.cmp .eq J7 (Js [92])) (Js1 (.assign 4 (Ji 1))) (Js1 (.ite (.cmp .eq J7 (Js [34])) (Js2 (.assign 2 Je) (.expr (.pop J5))) (Js1 (.ite (.cmp .inn J7 (Js [13,10])) (Js1 (.ret (.frz (.tup (Jk2 J1 J5))))) .skip))))) .cont) .skip))))) (.ite (.cmp .ne J2 Je) (Js1 (.expr (.append J1 (Js [99])))) (Js1 (.ite (.cmp .inn J7 (Js [40,41])) (Js1 (.expr (.append J1 J7))) (Js1 (.ite (.cmp .inn J7 (Js [44,59,91,93,123,125])) (Js1 (.expr (.append J1 (Js [44])))) (Js1 (.ite (.cmp .inn J7 (Js [32,9,10,13])) (Js1 (.expr (.append J1 (Js [32])))) (Js1 (.ite (.cmp2 .le .lt (Ji 33) (.blt 1 J7) (Ji 127)) (Js1 (.expr (.append J1 (Js [119])))) (Js3 (.expr (.append J1 (Js [63]))) (.expr (.append J5 J6)) (.ret (.frz (.tup (Jk2 J1 J5)))))))))))))))) (.ret (.frz (.tup (Jk2 J1 J5))))
noncomputable def vJ:=vsl [] ["number","many","found","k"]
noncomputable def fC:S:=Js5 (.ite (.cmp .lt J0 (Ji 128)) (Js1 (.ret (.frz (.list false (Jk1 J0))))) .skip) (.assign 1 (.ife (.cmp .lt J0 (Ji 2048)) (Ji 1) (.ife (.cmp .lt J0 (Ji 65536)) (Ji 2) (Ji 3)))) (.assign 2 (.list true (Jk1 (.bin .add (.sub (.list false (Jk4 (Ji 0) (Ji 192) (Ji 224) (Ji 240))) J1) (.bin .fdiv J0 (.bin .pow (Ji 64) J1)))))) (.for_ 3 0 J1 .absent (Js1 (.expr (.append J2 (.bin .add (Ji 128) (.bin .mod (.bin .fdiv J0 (.bin .pow (Ji 64) (.bin .sub (.bin .sub J1 (Ji 1)) J3))) (Ji 64))))))) (.ret (.frz J2))
noncomputable def ur:=vsl [] ["digits","base","parts","number","part","sign"]
noncomputable def fS:S:=Js3 (.assignT [2,3] (.tup (Jk2 (.split J0 (Js [95])) (Ji 0)))) (.for_ 4 2 J2 .absent (Js2 (.ite (.cmp .eq J4 Je) (Js1 (.ret Jn)) .skip) (.for_ 5 2 J4 .absent (Js2 (.ite (.cmp .nin J5 (.slice (Js [48,49,50,51,52,53,54,55,56,57,97,98,99,100,101,102,65,66,67,68,69,70]) .absent (.ife (.cmp .eq J1 (Ji 10)) (Ji 10) (Ji 22)))) (Js1 (.ret Jn)) .skip) (.assign 3 (.bin .add (.bin .mul J3 J1) (.index (Js [48,49,50,51,52,53,54,55,56,57,97,98,99,100,101,102]) (.lower J5)))))))) (.ret J3)
noncomputable def rR:=vsl [] ["inner","found","at","sign","behind","close","number","digits"]
noncomputable def aG:S:=Js3 (.assignT [1,2] (.tup (Jk2 (.list true .nil) (Ji 0)))) (.while_ (.cmp .lt J2 (.blt 0 J0)) (Js2 (.assignT [3,4] (.tup (Jk2 (.sub J0 J2) (.slice J0 (.bin .add J2 (Ji 1)) (.bin .add J2 (Ji 2)))))) (.ite (.cmp .ne J3 (Js [92])) (Js3 (.ite (.or (.cmp .lt (.blt 1 J3) (Ji 32)) (.cmp .eq (.blt 1 J3) (Ji 127))) (Js1 (.ret (.frz Jn))) .skip) (.expr (.extend J1 (.call 27 (Jk1 (.blt 1 J3))))) (.assign 2 (.bin .add J2 (Ji 1)))) (Js1 (.ite (.cmp .inn J4 (.tup (Jk6 (Js [116]) (Js [110]) (Js [114]) (Js [34]) (Js [39]) (Js [92])))) (Js2 (.expr (.append J1 (.esc false J4))) (.assign 2 (.bin .add J2 (Ji 2)))) (Js1 (.ite (.cmp .eq J4 (Js [117])) (Js5 (.assign 5 (.find J0 (Js [125]) J2)) (.assign 6 (.ife (.and (.cmp .gt J5 (.bin .add J2 (Ji 2))) (.cmp .eq (.sub J0 (.bin .add J2 (Ji 2))) (Js [123]))) (.call 28 (Jk2 (.slice J0 (.bin .add J2 (Ji 3)) J5) (Ji 16))) Jn)) (.ite (.or (.cmp .isN J6 Jn) (.or (.cmp .gt J6 (Ji 1114111)) (.cmp2 .le .lt (Ji 55296) J6 (Ji 57344)))) (Js1 (.ret (.frz Jn))) .skip) (.expr (.extend J1 (.call 27 (Jk1 J6)))) (.assign 2 (.bin .add J5 (Ji 1)))) (Js4 (.assign 7 (.slice J0 (.bin .add J2 (Ji 1)) (.bin .add J2 (Ji 3)))) (.ite (.or (.cmp .lt (.blt 0 J7) (Ji 2)) (.cmp .isN (.call 28 (Jk2 J7 (Ji 16))) Jn)) (Js1 (.ret (.frz Jn))) .skip) (.expr (.append J1 (.call 28 (Jk2 J7 (Ji 16))))) (.assign 2 (.bin .add J2 (Ji 3))))))))))) (.ret (.frz (.blt 3 J1)))
noncomputable def rS:=vsl [] ["text","body","number"]
noncomputable def sd:S:=Js3 (.assign 1 (.ife (.cmp .inn (.sub J0 (Ji 0)) (Js [43,45])) (.slice J0 (Ji 1) .absent) J0)) (.assign 2 (.ife (.cmp .eq (.slice J1 .absent (Ji 2)) (Js [48,120])) (.call 28 (Jk2 (.slice J1 (Ji 2) .absent) (Ji 16))) (.call 28 (Jk2 J1 (Ji 10))))) (.ret (.ife (.or (.cmp .isN J2 Jn) (.cmp .ne (.sub J0 (Ji 0)) (Js [45]))) J2 (.neg J2)))
noncomputable def vM:=vsl [0] ["text"]
noncomputable def vW:S:=Js1 (.ret (.comp false J1 (.or (.cmp .eq (.sub J0 J1) (Js [10])) (.and (.cmp .eq (.sub J0 J1) (Js [13])) (.cmp .ne (.slice J0 (.bin .add J1 (Ji 1)) (.bin .add J1 (Ji 2))) (Js [10])))) 1 0 (.blt 0 J0) .absent))
noncomputable def uu:=vsl [1] ["ends","at","ahead"]
noncomputable def uC:S:=Js2 (.assign 2 (.bin .add (.list false (Jk1 (.neg (Ji 1)))) (.comp false J3 (.cmp .lt J3 J1) 3 2 J0 .absent))) (.ret (.tup (Jk2 (.blt 0 J2) (.bin .sub J1 (.sub J2 (.neg (Ji 1)))))))
noncomputable def vL:=vsl [1,2] ["text","marks","fault","ends","found","at","end","word","sort","value","begin","close","row","column"]
noncomputable def bK:S:=Js4 (.assignT [1,2] (.call 26 (Jk1 J0))) (.assignT [3,4,5] (.tup (Jk3 (.call 31 (Jk1 J0)) (.list true .nil) (Ji 0)))) (.while_ (.cmp .lt J5 (.blt 0 J1)) (Js6 (.assign 6 (.bin .add J5 (Ji 1))) (.ite (.cmp .inn (.sub J1 J5) (Js [119,113,115])) (Js1 (.while_ (.and (.cmp .lt J6 (.blt 0 J1)) (.cmp .inn (.sub J1 J6) (Js [119,113,115]))) (Js1 (.assign 6 (.bin .add J6 (Ji 1)))))) .skip) (.assignT [7,8,9] (.tup (Jk3 (.slice J0 J5 J6) (Js [114,101,115,101,114,118,101,100]) Jn))) (.ite (.cmp .inn (.sub J1 J5) (Js [40,41])) (Js1 (.assign 8 (.sub J1 J5))) (Js1 (.ite (.and (.cmp .eq (.sub J1 J5) (Js [113])) (.and (.cmp .nin (Js [113]) (.slice J1 (.bin .add J5 (Ji 1)) J6)) (.cmp .nin (Js [119]) (.slice J1 J5 J6)))) (Js1 (.ite (.cmp .nin J5 J2) (Js2 (.assignT [8,9] (.tup (Jk2 (Js [115,116,114,105,110,103]) (.call 29 (Jk1 (.slice J7 (Ji 1) (.neg (Ji 1)))))))) (.ite (.cmp .isN J9 Jn) (Js1 (.expr (.append J2 J5))) .skip)) .skip)) (Js1 (.ite (.cmp .inn (Js [113]) (.slice J1 J5 J6)) (Js1 (.for_ 10 2 (.comp false J14 (.and (.cmp .eq (.sub J1 J14) (Js [113])) (.cmp .nin J14 J2)) 14 1 J5 J6) .absent (Js3 (.assign 11 (.bin .add J10 (Ji 1))) (.while_ (.and (.cmp .lt J11 J6) (.cmp .eq (.sub J1 J11) (Js [115]))) (Js1 (.assign 11 (.bin .add J11 (Ji 1))))) (.ite (.cmp .isN (.call 29 (Jk1 (.slice J0 (.bin .add J10 (Ji 1)) (.bin .sub J11 (Ji 1))))) Jn) (Js1 (.expr (.append J2 J10))) .skip)))) (Js1 (.ite (.cmp .eq (.sub J1 J5) (Js [119])) (Js2 (.assign 9 (.call 30 (Jk1 J7))) (.ite (.cmp .notN J9 Jn) (Js1 (.assign 8 (Js [105,110,116]))) (Js1 (.ite (.and (.cmp .eq (.sub J7 (Ji 0)) (Js [36])) (.cmp .gt (.blt 0 J7) (Ji 1))) (Js1 (.assign 8 (Js [105,100]))) (Js1 (.ite (.cmp2 .le .le (Js [97]) (.sub J7 (Ji 0)) (Js [122])) (Js1 (.assign 8 (Js [119,111,114,100]))) .skip)))))) .skip))))))) (.ite (.cmp .nin (.sub J1 J5) (Js [32,99,63])) (Js2 (.assignT [12,13] (.call 32 (Jk2 J3 J5))) (.expr (.append J4 (.tup (Jk5 J8 J7 J9 J12 J13))))) .skip) (.assign 5 J6))) (.ret (.frz (.tup (Jk2 J4 (.blt 4 J2)))))
noncomputable def kO:=vsl [] ["token","bits","error"]
noncomputable def kP:S:=Js1 (.try_ (Js1 (.ret (.ife (.cmp .eq J1 (Ji 0)) (.call 23 (Jk1 J0)) (.call 22 (Jk2 J0 J1))))) 2 (Js1 (.ret (.tup (Jk2 (.attr J2 2) (.attr J2 3))))))
noncomputable def lP:=vsl [] ["one","bits","word","number","least","most"]
noncomputable def gD:S:=Js5 (.assignT [2,3] (.tup (Jk2 (.sub J0 (Ji 1)) (.sub J0 (Ji 2))))) (.assignT [4,5] (.ife (.cmp .eq J1 (Ji 0)) (.tup (Jk2 (Ji 0) (.bin .pow (Ji 2) (Ji 32)))) (.tup (Jk2 (.neg (.bin .pow (Ji 2) (.bin .sub J1 (Ji 1)))) (.bin .pow (Ji 2) J1))))) (.ite (.cmp .inn (.sub J2 (Ji 0)) (Js [43,45])) (Js1 (.assign 5 (.ife (.cmp .gt J1 (Ji 0)) (.bin .pow (Ji 2) (.bin .sub J1 (Ji 1))) (Ji 0)))) .skip) (.ite (.or (.cmp .lt J3 J4) (.cmp .ge J3 J5)) (Js1 (.ret (.tup (Jk2 (.sub J0 (Ji 3)) (.sub J0 (Ji 4)))))) .skip) (.ret (.ife (.and (.cmp .gt J1 (Ji 0)) (.cmp .ge J3 (.bin .pow (Ji 2) (.bin .sub J1 (Ji 1))))) (.bin .sub J3 (.bin .pow (Ji 2) J1)) J3))
noncomputable def oZ:=vsl [] ["items","found","todo","item"]
noncomputable def bj:S:=Js3 (.assignT [1,2] (.tup (Jk2 (.list true .nil) (.comp true J4 .absent 4 3 J0 .absent)))) (.while_ (.cmp .ne J2 (.list false .nil)) (Js2 (.assign 3 (.pop J2)) (.ite (.cmp .isN J3 Jn) (Js1 (.expr (.append J1 (.tup (Jk1 (Js [41])))))) (Js1 (.ite (.isin 2 J3) (Js3 (.expr (.append J1 (.tup (Jk3 (Js [40]) (.attr J3 2) (.attr J3 3))))) (.expr (.append J2 Jn)) (.expr (.extend J2 (.comp false J5 .absent 5 3 (.attr J3 7) .absent)))) (Js1 (.expr (.append J1 (.tup (Jk4 (.attr J3 5) (.attr J3 0) (.attr J3 2) (.attr J3 3))))))))))) (.ret (.frz J1))
noncomputable def lO:=vsl [] ["text","fault","is_tree","error","row","column"]
noncomputable def lQ:S:=Js3 (.assignT [4,5] (.call 32 (Jk2 (.call 31 (Jk1 J0)) J1))) (.try_ (Js1 (.ite J2 (Js1 (.expr (.call 21 (Jk1 J0)))) (Js1 (.expr (.call 20 (Jk1 J0)))))) 3 (Js1 (.ret (.and (.cmp .eq (.attr J3 2) J4) (.or (.cmp .eq (.sub J0 J1) (Js [34])) (.cmp .eq (.attr J3 3) J5)))))) (.ret (.lit (.bool false)))
noncomputable def ut:=vsl [] ["text","due","error","opened","places","extra","one","told"]
noncomputable def fT:S:=Js5 (.assignT [3,4,5] (.tup (Jk3 (.list true .nil) (.list true .nil) Jn))) (.for_ 6 2 J1 .absent (Js1 (.ite (.cmp .eq (.sub J6 (Ji 0)) (Js [40])) (Js1 (.expr (.append J3 (.tup (Jk2 (.sub J6 (Ji 3)) (.sub J6 (Ji 4))))))) (Js1 (.ite (.and (.cmp .eq (.sub J6 (Ji 0)) (Js [41])) (.cmp .eq J3 (.list false .nil))) (Js2 (.assign 5 (.tup (Jk2 (.sub J6 (Ji 3)) (.sub J6 (Ji 4))))) .brk) (Js1 (.ite (.cmp .eq (.sub J6 (Ji 0)) (Js [41])) (Js1 (.expr (.pop J3))) .skip))))))) (.try_ (Js1 (.assign 7 (.call 36 (Jk1 (.call 21 (Jk1 J0)))))) 2 (Js2 (.ite (.cmp .notN J5 Jn) (Js1 (.ret (.cmp .eq (.tup (Jk2 (.attr J2 2) (.attr J2 3))) J5))) .skip) (.ret (.cmp .inn (.tup (Jk2 (.attr J2 2) (.attr J2 3))) J3)))) (.for_ 6 2 J1 .absent (Js1 (.ite (.cmp .eq (.sub J6 (Ji 0)) (Js [41])) (Js1 (.expr (.append J4 (.tup (Jk1 (Js [41])))))) (Js1 (.ite (.cmp .eq (.sub J6 (Ji 0)) (Js [40])) (Js1 (.expr (.append J4 (.tup (Jk3 (Js [40]) (.sub J6 (Ji 3)) (.sub J6 (Ji 4))))))) (Js1 (.expr (.append J4 (.tup (Jk4 (.sub J6 (Ji 0)) (.sub J6 (Ji 1)) (.sub J6 (Ji 3)) (.sub J6 (Ji 4)))))))))))) (.ret (.and (.cmp .isN J5 Jn) (.and (.cmp .eq J3 (.list false .nil)) (.cmp .eq J7 J4))))
noncomputable def LQ:=vsl [2,4,5] ["script","text","due","faults","found","k","wanted"]
noncomputable def ni:S:=Js8 (.assign 1 (.call 25 (Jk1 J0))) (.assignT [2,3] (.call 33 (Jk1 J1))) (.ite (.cmp .ne J3 (.list false .nil)) (Js1 (.ret (.call 37 (Jk3 J1 (.sub J3 (Ji 0)) (.cmp .eq (.bin .mod (.blt 0 J0) (Ji 2)) (Ji 1)))))) .skip) (.ite (.cmp .eq (.bin .mod (.blt 0 J0) (Ji 2)) (Ji 1)) (Js1 (.ret (.call 38 (Jk2 J1 J2)))) .skip) (.assign 4 (.call 20 (Jk1 J1))) (.ite (.cmp .ne (.comp false (.tup (Jk4 (.attr J7 5) (.attr J7 0) (.attr J7 2) (.attr J7 3))) .absent 7 2 J4 .absent) (.comp false (.tup (Jk4 (.sub J8 (Ji 0)) (.sub J8 (Ji 1)) (.sub J8 (Ji 3)) (.sub J8 (Ji 4)))) .absent 8 2 J2 .absent)) (Js1 (.ret (.lit (.bool false)))) .skip) (.for_ 5 0 (.blt 0 J2) .absent (Js4 (.ite (.and (.cmp .inn (.sub (.sub J2 J5) (Ji 0)) (.tup (Jk2 (Js [115,116,114,105,110,103]) (Js [105,110,116])))) (.cmp .ne (.attr (.sub J4 J5) 6) (.sub (.sub J2 J5) (Ji 2)))) (Js1 (.ret (.lit (.bool false)))) .skip) (.assign 6 (.bin .mul (.list false (Jk1 (.tup (Jk2 (.sub (.sub J2 J5) (Ji 3)) (.sub (.sub J2 J5) (Ji 4)))))) (Ji 3))) (.ite (.cmp .eq (.sub (.sub J2 J5) (Ji 0)) (Js [105,110,116])) (Js1 (.assign 6 (.comp false (.call 35 (Jk2 (.sub J2 J5) J9)) .absent 9 2 (.tup (Jk3 (Ji 0) (Ji 32) (Ji 64))) .absent))) .skip) (.ite (.cmp .ne (.comp false (.call 34 (Jk2 (.sub J4 J5) J10)) .absent 10 2 (.tup (Jk3 (Ji 0) (Ji 32) (Ji 64))) .absent) J6) (Js1 (.ret (.lit (.bool false)))) .skip))) (.ret (.lit (.bool true)))
end
variable {B:Bs} {c:FC} {Sp:Nat→aP} {gv:Nat→List Nat} {m:Nat→V} {σ J M2:Sto} {s M0 M8:Shared}
inductive TbO (P:Addr→Prop) (MN h:Heap) (e:Addr) (vs:Array Value):Prop
 |mk (T:Addr) (oT:Obj) (ts:Array Value) (b1:vs[1]?=some (.ref T)) (b2:h.get? T=some oT) (b3:oT.data= .fields ts) (b4:3<ts.size) (b5:T≠e) (b6:P T) (b7:MN.get? T=none) (b8:oT.cls= .type "traceback")
def Tb (P:Addr→Prop) (MN h:Heap) (e:Addr) (vs:Array Value):Prop:=
 vs[1]?=some .none∨TbO P MN h e vs
inductive Ex (B:Bs) (P:Addr→Prop) (MN h:Heap) (e:Addr) (row col:Int):Prop
 |mk (oe:Obj) (vs:Array Value) (d:Addr) (mm:PySem.Str→Option Value) (t u:Tok) (a1:h.get? e=some oe) (a2:oe.cls= .ref (B.ca 3)) (a3:oe.data= .fields vs) (a4:4<vs.size) (a5:oe.dict=some d) (a6:h.Ns d mm) (a7:mm (aq 2)=some (.int row t)) (a8:mm (aq 3)=some (.int col u))
  (a9:P e) (a10:P d) (a11:MN.get? e=none) (a12:MN.get? d=none) (a13:Tb P MN h e vs)
theorem Ex.sooner (x:Ex B P MO h e row col) (k:∀a,(MN.get? a).isSome=true→(MO.get? a).isSome=true):Ex B P MN h e row col:=by
 have dead:∀a,MO.get? a=none→MN.get? a=none:=fun a q=>by
  cases w:MN.get? a with
  |none=>rfl
  |some o=>exact(bJ (k a (er w rfl)) q).elim
 obtain⟨oe,vs,d,mm,t,u,a1,a2,a3,a4,a5,a6,a7,a8,a9,a10,a11,a12,a13⟩:=x;exact⟨oe,vs,d,mm,t,u,a1,a2,a3,a4,a5,a6,a7,a8,a9,a10,dead _ a11,dead _ a12,a13.imp id fun⟨T,oT,ts,b1,b2,b3,b4,b5,b6,b7,b8⟩=>⟨T,oT,ts,b1,b2,b3,b4,b5,b6,dead _ b7,b8⟩⟩
section
variable (B:Bs) (c:FC)
inductive PostE (m:Nat→V) (σ:Sto) (s:Shared) (KE:Ke) (ev:Value) (s':Shared):Prop
 |mk (e:Addr) (row col:Int) (M1:Sto) (e1:ev= .ref e) (S:St B c m M1 s') (N:Nq c σ s M1 s') (x:Ex B (Pr M1 c.F) s.heap s'.heap e row col) (k:KE row col M1)
inductive PostX {α:Type} (m:Nat→V) (σ:Sto) (s:Shared) (P:α→Sto→Shared→Prop) (a:α) (s':Shared):Prop
 |mk (M1:Sto) (S:St B c m M1 s') (N:Nq c σ s M1 s') (p:P a M1 s')
def dA {α:Type} (t:Sem α) (m:Nat→V) (σ:Sto) (s:Shared) (P:α→Sto→Shared→Prop) (KE:Ke):Prop:=
 wpAny (model B.prog B.w) c.A t (PostX B c m σ s P) (PostE B c m σ s KE) s
def Tri {α:Type} (t:Sem α) (m:Nat→V) (σ:Sto) (s:Shared) (P:α→Sto→Shared→Prop) (KE:Ke):Prop:=
 wpG (model B.prog B.w) c.A t (PostX B c m σ s P) (PostE B c m σ s KE) s
end
section
variable {α β:Type} {t:Sem α} {P:α→Sto→Shared→Prop} {KE:Ke}
theorem Nq.refl (c:FC) (σ:Sto) (s:Shared):Nq c σ s σ s:=⟨.refl ..,fun _ h=>.inl h,.refl _⟩
theorem Nq.trans (x:Nq c σ s J M0) (y:Nq c J M0 M2 M8):Nq c σ s M2 M8:=by
 refine⟨x.ev.trans y.ev (fun a e z=>?_) (fun a e z=>.inl z),fun a z=>?_,x.same.trans y.same⟩
 ·exact(x.nd a z).elim id fun q=>(bJ e q).elim
 ·rcases y.nd a z with q|q
  ·exact x.nd a q
  ·right;cases w:s.heap.get? a with
   |none=>rfl
   |some o=>exact(bJ (x.ev.alive a (er w rfl)) q).elim
theorem Nq.rv (hc:c.Ok B) (x:Nq c σ s J M0) (r:Rv B (Pr σ c.F) s.heap v d):Rv B (Pr J c.F) M0.heap v d:=x.nx.rv hc r
theorem Nq.rvs (hc:c.Ok B) (x:Nq c σ s J M0) (r:Rvs B (Pr σ c.F) s.heap v d):Rvs B (Pr J c.F) M0.heap v d:=x.nx.rvs hc r
theorem PostE.sooner (n:Nq c σ s J M0) (x:PostE B c m J M0 KE ev s'):PostE B c m σ s KE ev s':=by
 obtain⟨e,row,col,M1,h1,h2,h3,h4,h5⟩:=x;exact⟨e,row,col,M1,h1,h2,n.trans h3,h4.sooner n.ev.alive,h5⟩
theorem Tri.pure (S:St B c m σ s) (h:P a σ s):Tri B c (pure a) m σ s P KE:=ac ⟨σ,S,.refl ..,h⟩
theorem Tri.bind (h:Tri B c t m σ s P KE) (k:∀a J M0,St B c m J M0→Nq c σ s J M0→P a J M0→Tri B c (f a) m J M0 Q KE):Tri B c (t>>=f) m σ s Q KE:=by
 refine aa (aJ h (fun a M0 ⟨J,M3,M6,p⟩=>?_) fun _ _ e=>e);exact aJ (k a J M0 M3 M6 p) (fun b M8 ⟨M2,M7,MM,q⟩=>⟨M2,M7,M6.trans MM,q⟩) fun _ _ e=>e.sooner M6
theorem Tri.mono (h:Tri B c t m σ s P KE) (k:∀a J M0,St B c m J M0→Nq c σ s J M0→P a J M0→P' a J M0):Tri B c t m σ s P' KE:=
 aJ h (fun a M0 ⟨J,M3,M6,p⟩=>⟨J,M3,M6,k a J M0 M3 M6 p⟩) fun _ _ e=>e
theorem Tri.stand (h:Tri B c (f ()) m σ s P KE):Tri B c (standAt pos>>=f) m σ s P KE:=aa (aR h)
theorem Tri.hold (h:Tri B c t m σ s P KE):Tri B c (holding vs t) m σ s P KE:=ay h
theorem dA.up (h:dA B c t m σ s P KE):Tri B c t m σ s P KE:=wpG.any h
theorem Nq.toks (c:FC) (σ:Sto) (s:Shared) (k:Nat):Nq c σ s σ {s with toks:=k}:=⟨.refl ..,fun _ h=>.inl h,⟨rfl,rfl,rfl⟩⟩
theorem St.toks (S:St B c m σ s) (k:Nat):St B c m σ {s with toks:=k}:=⟨S.loc,S.hr,S.fal,S.stays,S.ff,S.ev,S.nd,S.same⟩
theorem Pr.keep_push {h:Heap} {σ:Sto} {F:Addr→Prop} (o:Obj):∀a x,Pr σ F a→h.get? a=some x→Pr σ F a∧(h.push o).get? a=some x:=fun a x p e=>⟨p,f5 _ e⟩
theorem HR.push {F:Addr→Prop} {h:Heap} (H:HR B F σ h) (o:Obj):HR B F σ (h.push o):=
 ⟨fun a x e=>(H.ob a x e).keep (Pr.keep_push o) fun _ q=>f5 _ q,H.priv,H.new⟩
theorem Nq.push (c:FC) (σ:Sto) (s:Shared) (o:Obj) (k:Nat):Nq c σ s σ {s with heap:=s.heap.push o,toks:=k}:=⟨.push ..,fun _ h=>.inl h,⟨rfl,rfl,rfl⟩⟩
theorem bQ (h:Heap):h.get? h.objs.size=none:=by
 cases q:h.get? h.objs.size with
 |none=>rfl
 |some o=>exact absurd (o6 q) (H7 _)
theorem St.fresh (S:St B c m σ s):σ s.heap.objs.size=none∧¬c.F s.heap.objs.size∧B.base.get? s.heap.objs.size=none:=by
 refine⟨S.hr.dead (bQ _),fun z=>bJ (S.fal _ z).1 (bQ _),?_⟩;cases q:B.base.get? s.heap.objs.size with
 |none=>rfl
 |some o=>exact absurd (o6 (S.stays _ o q)) (H7 _)
theorem St.push (hc:c.Ok B) (S:St B c m σ s) (o:Obj) (k:Nat):St B c m σ {s with heap:=s.heap.push o,toks:=k}:=S.step hc (Nq.push c σ s o k) (S.hr.push o)
theorem Pr.put {F:Addr→Prop} {a:Addr} {o:AObj} (σ:Sto) {h:Heap} (hd:h.get? a=none):∀b x,Pr σ F b→h.get? b=some x→Pr (σ.put a o) F b:=fun b x p e=>by
 have:b≠a:=fun z=>by rw[z,hd] at e;exact noS e
 exact⟨by rw[aA σ o this];exact p.1,p.2⟩
theorem HR.put_new {F:Addr→Prop} {h:Heap} {ob:Obj} {o:AObj} (H:HR B F σ h) (hF:¬F h.objs.size) (hB:B.base.get? h.objs.size=none)
  (hr:RO B (Pr (σ.put h.objs.size o) F) (h.push ob) h.objs.size o):HR B F (σ.put h.objs.size o) (h.push ob):=by
 refine⟨fun a x e=>?_,fun a e=>?_,fun a e=>?_⟩
 ·by_cases q:a=h.objs.size
  ·subst q;rw[ai] at e;cases e;exact hr
  ·rw[aA σ o q] at e;exact(H.ob a x e).keep (fun b y p z=>⟨Pr.put σ (bQ h) b y p z,f5 _ z⟩) fun _ z=>f5 _ z
 ·by_cases q:a=h.objs.size
  ·subst q;exact hF
  ·rw[aA σ o q] at e;exact H.priv a e
 ·by_cases q:a=h.objs.size
  ·subst q;exact hB
  ·rw[aA σ o q] at e;exact H.new a e
theorem Nq.put_new (c:FC) (σ:Sto) (s:Shared) (ob:Obj) (o:AObj) (k:Nat):Nq c σ s (σ.put s.heap.objs.size o) {s with heap:=s.heap.push ob,toks:=k}:=by
 refine⟨.push ..,fun a z=>?_,⟨rfl,rfl,rfl⟩⟩;by_cases q:a=s.heap.objs.size
 ·subst q;exact .inr (bQ _)
 ·rw[aA σ o q] at z;exact .inl z
theorem St.put_new (hc:c.Ok B) (S:St B c m σ s) (k:Nat) (hr:RO B (Pr (σ.put s.heap.objs.size o) c.F) (s.heap.push ob) s.heap.objs.size o):
  St B c m (σ.put s.heap.objs.size o) {s with heap:=s.heap.push ob,toks:=k}:=
 S.step hc (Nq.put_new c σ s ob o k) (S.hr.put_new S.fresh.2.1 S.fresh.2.2 hr)
end
section
variable (B:Bs) (c:FC) (Sp:Nat→aP) (gv:Nat→List Nat)
inductive PV (K:Kx) (v:Value) (M1:Sto) (s':Shared):Prop
 |mk (d:V) (r:Rv B (Pr M1 c.F) s'.heap v d) (k:K d M1)
def EX (x:X) (e:Expr):Prop:=∀m σ s K KE,vcX Sp gv x m σ K KE→St B c m σ s→Tri B c (eval e c.env) m σ s (PV B c K) KE
def ET (x:X) (e:Expr):Prop:=∀m σ s K KE,vcT Sp gv x m σ K KE→St B c m σ s→Tri B c (isTrue e c.env (eval e c.env)) m σ s (fun t M1 _=>K t M1) KE
def EXs (xs:XL) (es:List Expr):Prop:=∀m σ s K KE pos,jj Sp gv xs m σ K KE→St B c m σ s→
 Tri B c (spliced (backTo pos (starEach es c.env))) m σ s (fun vs M1 s'=>∃ds,Rvs B (Pr M1 c.F) s'.heap vs ds∧K ds M1) KE
end
section
variable {α β:Type} {KE:Ke}
theorem CK (hc:c.Ok B) {i:Nat} {id:PySem.Str} {cl:Bool} (hx:(i,id,cl)∈c.vars) (hd:(id==("__debug__":PySem.Str))=false) (hcd:(id==("__classdict__":PySem.Str))=false) {pos:Pos} (S:St B c m σ s) (hu:m i≠ .unb):
  ∃v,Rv B (Pr σ c.F) s.heap v (m i)∧∀{E:Value→Shared→Prop} {Q:Value→Shared→Prop},Q v s→wpAny (model B.prog B.w) c.A (eval (.Name id pos) c.env) Q E s:=by
 induction cl with
 |false=>
  refine aj S.loc.1 fun mm hn k=>?_;rcases k _ hx rfl with q|⟨v,q,r⟩
  ·exact(hu q).elim
  ·exact⟨v,r,fun h=>wpAny_Name (wpAny_loadName_local hc.kind (hc.vloc _ hx rfl) hn q h) hd⟩
 |true=>
  obtain⟨hk,a,ha,ho⟩:=hc.vcell _ hx rfl;refine aj (S.loc.2 _ hx rfl a ha) fun ov hcell k=>?_;rcases k with q|⟨v,q,r⟩
  ·exact(hu q).elim
  ·subst q;rcases hk with hk|hk
   ·exact⟨v,r,fun h=>wpAny_Name (wpAny_loadName_cell hc.kind hk ha hcell h) hd⟩
   ·exact⟨v,r,fun h=>wpAny_Name (wpAny_loadName_free hc.kind hk ha hcell h hcd) hd⟩
theorem Tri.leaf {v:Value} {t:Sem Value} {K:Kx} {d:V} (S:St B c m σ s) (r:Rv B (Pr σ c.F) s.heap v d) (k:K d σ) (h:∀{E:Value→Shared→Prop} {Q:Value→Shared→Prop},Q v s→wpAny (model B.prog B.w) c.A t Q E s):Tri B c t m σ s (PV B c K) KE:=
 wpG.any (h ⟨σ,S,.refl ..,d,r,k⟩)
theorem JQ (hc:c.Ok B) {i:Nat} {id:PySem.Str} {cl:Bool} (hx:(i,id,cl)∈c.vars) (hd:(id==("__debug__":PySem.Str))=false) (hcd:(id==("__classdict__":PySem.Str))=false) {pos:Pos}:EX B c Sp gv (.var i) (.Name id pos):=by
 intro m σ s K KE h S;have hu:m i≠ .unb∧K (m i) σ:=by
  exact lH h
 refine aj (CK hc hx hd hcd S hu.1 (pos:=pos)) fun v r k=>?_;exact Tri.leaf S r hu.2 k
set_option backward.match.sparseCases false in
noncomputable def HI (d:V) (k:Const):Bool:=match d with
 |.none=>(match k with|.none=>true|_=>false)
 |.bool a=>(match k with|.bool b=>a==b|_=>false)
 |.int i=>(match k with|.int j=>i==j|_=>false)
 |.str l=>(match k with|.str x=>x.cps.toList==l&&decide (l.length≤ah)|_=>false)
 |.bytes l=>(match k with|.bytes b=>b.isEmpty&&l.isEmpty|_=>false)
 |_=>false
theorem ml {α:Type} {l:List α} (h:l.isEmpty=true):l=[]:=by
 induction l with
 |nil=>rfl
 |cons _ _=>exact noT h
theorem JW {d:V} {k:Const} (h:HI d k=true) {n:Nat} {pos:Pos}:EX B c Sp gv (.lit d) (.Constant k n pos):=by
 intro m σ s K KE hv S;simp only[PySem.eval_Constant];cases d<;>try exact noT h
 ·cases k<;>try exact noT h
  exact ac ⟨σ,S,.refl ..,_,.none,hv⟩
 ·cases k<;>try exact noT h
  exact ac ⟨σ,S,.refl ..,_,eq_of_beq h▸ .bool _,hv⟩
 ·cases k<;>try exact noT h
  exact wpG.any (wpAny_mkInt ⟨σ,S.toks _,.toks ..,_,eq_of_beq h▸ .int _ _,hv⟩)
 ·cases k<;>try exact noT h
  refine am (d8.mp h) fun h1 h2=>?_;exact wpG.any (wpAny_mkText ⟨σ,S.toks _,.toks ..,_,.str _ _ (eq_of_beq h1) (c8 h2),hv⟩)
 ·cases k<;>try exact noT h
  refine am (d8.mp h) fun h1 h2=>?_;cases ml h1;cases ml h2;exact wpG.any (c5 (wpAny_fresh (e6 ⟨σ,S.toks _,.toks ..,_,.bytes _ _ rfl,hv⟩)))
theorem dr (hc:c.Ok B) (S:St B c m σ s) {id:PySem.Str} {v:Value} (hg:B.mg id=some v) (hk:c.env.kindOf id=some .globalImplicit) (hd:(id==("__debug__":PySem.Str))=false) {pos:Pos}
  {E:Value→Shared→Prop} {Q:Value→Shared→Prop} (h:Q v s):wpAny (model B.prog B.w) c.A (eval (.Name id pos) c.env) Q E s:=
 D0 hc.kind hk (loadGlobal_global (er hc.globals (B.g.keeps S.stays)) hg h) hd
theorem tM (hc:c.Ok B) (S:St B c m σ s) {id:PySem.Str} {v:Value} (hg:B.mg id=none) (hb:bootBuiltins id=some v) (hn:id≠"__name__") (hk:c.env.kindOf id=some .globalImplicit) (hd:(id==("__debug__":PySem.Str))=false) {pos:Pos}
  {E:Value→Shared→Prop} {Q:Value→Shared→Prop} (h:Q v s):wpAny (model B.prog B.w) c.A (eval (.Name id pos) c.env) Q E s:=
 D0 hc.kind hk (loadGlobal_builtin (er hc.globals (B.g.keeps S.stays)) hg (er hc.bns (B.b.keeps S.stays)) ((B.builtins id hn).trans hb) h) hd
theorem Gr (hc:c.Ok B) {g:Nat} {id:PySem.Str} {x:PySem.Str} {t:Tok} (hg:B.mg id=some (.str x t)) (hx:x.cps.toList=gv g) (hl:(gv g).length≤ah) (hk:c.env.kindOf id=some .globalImplicit) (hd:(id==("__debug__":PySem.Str))=false) {pos:Pos}:
  EX B c Sp gv (.gstr g) (.Name id pos):=by
 intro m σ s K KE hv S;exact wpG.any (dr hc S hg hk hd ⟨σ,S,.refl ..,_,.str x t hx hl,hv⟩)
theorem Kg (ha:EX B c Sp gv a ea) (hb:EX B c Sp gv b (match rest with|[]=>eb|_=>.BoolOp .And (eb::rest) pos)):EX B c Sp gv (.and a b) (.BoolOp .And (ea::eb::rest) pos):=by
 intro m σ s K KE h S;refine(ha _ _ _ _ _ h S).bind fun v J M0 M3 M6 ⟨d,r,k⟩=>.stand ?_;refine aj (jh k) fun t z1_ k=>?_;subst z1_;cases r.inv;refine Tri.bind (P:=fun u M1 s'=>u=t∧M1=J∧s'=M0) (.hold (wpG.any (A0 ⟨J,M3,.refl ..,rfl,rfl,rfl⟩))) fun u M2 M8 M7 MM ⟨q1,q2,q3⟩=>?_;subst q1;subst q2;subst q3;cases u with
 |false=>exact .pure M7 ⟨_,.bool _,k⟩
 |true=>
  have:=hb _ _ _ _ _ k M7
  induction rest with
  |nil=>exact this
  |cons _ _=>exact this
theorem Mp (ha:EX B c Sp gv a ea) (hb:EX B c Sp gv b (match rest with|[]=>eb|_=>.BoolOp .Or (eb::rest) pos)):EX B c Sp gv (.or a b) (.BoolOp .Or (ea::eb::rest) pos):=by
 intro m σ s K KE h S;refine(ha _ _ _ _ _ h S).bind fun v J M0 M3 M6 ⟨d,r,k⟩=>.stand ?_;refine aj (jh k) fun t z1_ k=>?_;subst z1_;cases r.inv;refine Tri.bind (P:=fun u M1 s'=>u=t∧M1=J∧s'=M0) (.hold (wpG.any (A0 ⟨J,M3,.refl ..,rfl,rfl,rfl⟩))) fun u M2 M8 M7 MM ⟨q1,q2,q3⟩=>?_;subst q1;subst q2;subst q3;cases u with
 |true=>exact .pure M7 ⟨_,.bool _,k⟩
 |false=>
  have:=hb _ _ _ _ _ k M7
  induction rest with
  |nil=>exact this
  |cons _ _=>exact this
theorem JX (hq:ET B c Sp gv q eq) (ha:EX B c Sp gv a ea) (hb:EX B c Sp gv b eb):EX B c Sp gv (.ife q a b) (.IfExp eq ea eb pos):=by
 intro m σ s K KE h S;refine(hq _ _ _ _ _ h S).bind fun t J M0 M3 M6 k=>?_
 induction t with
 |true=>exact ha _ _ _ _ _ k M3
 |false=>exact hb _ _ _ _ _ k M3
theorem et_not (ha:ET B c Sp gv a ea):ET B c Sp gv (.not a) (.UnaryOp .Not ea pos):=by
 intro m σ s K KE h S;exact(ha _ _ _ _ _ h S).bind fun t J M0 M3 M6 k=>.pure M3 k
theorem et_and (ha:ET B c Sp gv a ea) (hb:ET B c Sp gv b (match rest with|[]=>eb|_=>.BoolOp .And (eb::rest) pos)):ET B c Sp gv (.and a b) (.BoolOp .And (ea::eb::rest) pos):=by
 intro m σ s K KE h S;refine(ha _ _ _ _ _ h S).bind fun t J M0 M3 M6 k=>?_;cases t with
 |false=>exact .pure M3 k
 |true=>
  have:=hb _ _ _ _ _ k M3;cases rest with
  |nil=>
   refine Tri.bind this fun u M2 M8 M7 MM MP=>?_;cases u<;>exact .pure M7 MP
  |cons _ _=>exact this
theorem et_or (ha:ET B c Sp gv a ea) (hb:ET B c Sp gv b (match rest with|[]=>eb|_=>.BoolOp .Or (eb::rest) pos)):ET B c Sp gv (.or a b) (.BoolOp .Or (ea::eb::rest) pos):=by
 intro m σ s K KE h S;refine(ha _ _ _ _ _ h S).bind fun t J M0 M3 M6 k=>?_;cases t with
 |true=>exact .pure M3 k
 |false=>
  have:=hb _ _ _ _ _ k M3;cases rest with
  |nil=>
   show Tri B c (isTrue eb c.env (eval eb c.env)>>=fun t=>match BoolOp.Or,t with|.And,false=>Pure.pure false|.Or,true=>Pure.pure true|_,_=>Pure.pure false) m J M0 _ KE;refine Tri.bind this fun u M2 M8 M7 MM MP=>?_;cases u<;>exact .pure M7 MP
  |cons _ _=>exact this
set_option backward.match.sparseCases false in
noncomputable def qe:Expr→Bool
 |.UnaryOp .Not _ _=>false
 |.BoolOp .. =>false
 |.IfExp .. =>false
 |.Compare .. =>false
 |_=>true
set_option tactic.hygienic true in
theorem sr (h:qe e=true):isTrue e env (eval e env)=(do let v ←eval e env;standAt e.pos;holding [v] (truthy v)):=by
 cases e<;>first|(cases h;done)|rfl|skip
 rename_i op _ _
 cases op<;>first|(cases h;done)|rfl
theorem kF (hp:qe e=true) (hx:EX B c Sp gv x e) (hv:∀m σ K KE,vcT Sp gv x m σ K KE→vcX Sp gv x m σ (fun d J=>ik d fun b=>K b J) KE):ET B c Sp gv x e:=by
 intro m σ s K KE h S;refine er (sr hp) ?_;refine(hx _ _ _ _ _ (hv _ _ _ _ h) S).bind fun v J M0 M3 M6 ⟨d,r,k⟩=>.stand ?_;refine aj (jh k) fun t z1_ k=>?_;subst z1_;cases r.inv;exact .hold (wpG.any (A0 ⟨J,M3,.refl ..,k⟩))
theorem ej:EXs B c Sp gv .nil []:=fun m σ s K KE pos h S=>ac ⟨σ,S,.refl ..,[],.nil,h⟩
set_option backward.match.sparseCases false in
noncomputable def az:Expr→Bool
 |.Starred .. =>false
 |_=>true
theorem bY (h:az e=true):starEach (e::rest) env=(false,eval e env)::starEach rest env:=by
 cases e<;>first|(cases h;done)|rfl
theorem cz (hs:az e=true) (ha:EX B c Sp gv a e) (hr:EXs B c Sp gv r es) (hc:c.Ok B):EXs B c Sp gv (.cons a r) (e::es):=by
 intro m σ s K KE pos h S;refine er (bY hs) ?_;show Tri B c (eval e c.env>>=fun v=>Pure.pure [v]>>=fun here=>holding here (spliced (backTo pos (starEach es c.env)))>>=fun r=>Pure.pure (here++r)) m σ s _ KE;refine(ha _ _ _ _ _ h S).bind fun v J M0 M3 M6 q0_=>?_;obtain⟨d,rv,k⟩:=q0_;refine Tri.bind (P:=fun u M1 s'=>u=[v]∧M1=J∧s'=M0) (.pure M3 ⟨rfl,rfl,rfl⟩) fun u M2 M8 M7 MM q0_=>?_;refine cQ q0_ fun q1 q2 q3=>?_;subst q1;subst q2;subst q3;exact(Tri.hold (hr _ _ _ _ _ pos k M7)).bind fun vs ML N2 MU MT q0_=>by obtain⟨ds,rs,N0⟩:=q0_;exact .pure MU ⟨d::ds,.cons (MT.rv hc rv) rs,N0⟩
end
section
set_option backward.match.sparseCases false
open PySem PySem.W PyProof.Rows PySem.Calls PySem.SeqAt
section
variable {P:Addr→Prop} {A:Around} {v w:Value} {d e:V} {b:Bool}
theorem lA {x y:PySem.Str} (h:x.cps.toList=y.cps.toList):x=y:=by
 obtain⟨⟨x⟩⟩:=x;obtain⟨⟨y⟩⟩:=y;simp at h;rw[h]
theorem rJ (x y:PySem.Str):(x.cps.toList==y.cps.toList)=decide (x.cps.toList=y.cps.toList):=by
 rw[E6,C6,A5]
theorem Ao (hv:Rv B P s.heap v d) (hw:Rv B P s.heap w e) (h:eq0 d e=some b):EqAt A s v w b:=by
 cases d<;>try exact noS h
 ·obtain⟨j,rfl,h⟩:=dP h;obtain⟨t,rfl⟩:=hv.inv;obtain⟨u,rfl⟩:=hw.inv;obtain rfl:=c7 h;exact(MeetsSeq.EqGives.int _ j t u).at A s
 ·obtain⟨j,rfl,h⟩:=iq h;obtain⟨x,t,rfl,rfl,_⟩:=hv.inv;obtain⟨y,u,rfl,rfl,_⟩:=hw.inv;obtain rfl:=c7 h;exact rJ x y▸(PySem.SeqRoads2.EqGives.str x y t u).at A s
theorem Dz (hv:Rv B P s.heap v d) (hw:Rv B P s.heap v e) (h:eq0 d e=some b):b=true:=by
 cases d<;>try exact noS h
 ·obtain⟨j,rfl,h⟩:=dP h;obtain⟨t,rfl⟩:=hv.inv;refine ar hw.inv fun u q=>?_;injection q with q;subst q
  exact(c7 h).symm.trans (f9 rfl)
 ·obtain⟨j,rfl,h⟩:=iq h;refine aZ hv.inv fun x t z2_ z3_ _=>?_;subst z2_;subst z3_;refine aZ hw.inv fun y u q z3_ _=>?_;subst z3_;injection q with q;subst q
  exact(c7 h).symm.trans (f9 rfl)
theorem rg (h:(match o,p with|some a,some b=>some (a&&b)|_,_=>none)=some b):∃x y,o=some x∧p=some y∧(x&&y)=b:=by
 induction o with
 |none=>exact noS h
 |some x=>induction p with
  |none=>exact noS h
  |some y=>exact⟨x,y,rfl,rfl,c7 h⟩
theorem IU (h:(match o,p with|some a,some b=>some (a||b)|_,_=>none)=some b):∃x y,o=some x∧p=some y∧(x||y)=b:=by
 induction o with
 |none=>exact noS h
 |some x=>induction p with
  |none=>exact noS h
  |some y=>exact⟨x,y,rfl,rfl,c7 h⟩
theorem vy (hf:∀{v:Value} {d e:V} {b:Bool},Rv B P s.heap v d→Rv B P s.heap v e→f d e=some b→b=true) (r:Rvs B P s.heap vs ds):Rvs B P s.heap vs es→cF f ds es=some b→b=true:=
 r.ind (M:=fun vs ds=>∀{es:List V} {b:Bool},Rvs B P s.heap vs es→cF f ds es=some b→b=true) (fun{es b} r h=>by
  induction es with
  |nil=>exact(c7 h).symm
  |cons _ _=>obtain⟨_,_,q,_⟩:=r.inv;cases q) fun{v vs d ds} a _ ih {es b} r h=>by
  cases es with
  |nil=>cases r.inv
  |cons _ _=>
   refine aZ r.inv fun _ _ q a' r'=>?_;cases q;refine aZ (rg h) fun x y h1 h2 z4_=>?_;subst z4_;rw[hf a a' h1,ih r' h2];rfl
noncomputable def eAt (f:V→V→Option Bool) (ds es:List V) (j:Nat):Bool:=match ds[j]?,es[j]? with
 |some x,some y=>(f x y).getD true
 |_,_=>true
theorem lp:∀{ds es:List V} {b:Bool},cF f ds es=some b→((List.range (min ds.length es.length)).all (eAt f ds es)&&ds.length==es.length)=b:=by
 intro ds
 induction ds with
 |nil=>intro es b h;cases es<;>exact c7 h
 |cons x xs ih=>
  intro es b h;cases es with
  |nil=>exact c7 h
  |cons y ys=>
   refine av fun gP gO=>?_;refine aZ (rg h) fun p q h1 h2 z4_=>?_;subst z4_;have e0:eAt f (x::xs) (y::ys) 0=p:=show(f x y).getD true=p by rw[h1];rfl
   have:(eAt f (x::xs) (y::ys)∘Nat.succ)=eAt f xs ys:=rfl;refine gO ?_;simp only[c6,c6,Nat.succ_min_succ,List.range_succ_eq_map,List.all_cons,List.all_map,e0,this,←ih h2,Bool.and_assoc];exact congrArg (fun z=>p&&(_&&z)) (by rw[E6,A5,A5];exact Nat.succ_inj)
theorem vx:∀{ds es:List V} {b:Bool} {j:Nat} {x y:V},cF f ds es=some b→ds[j]?=some x→es[j]?=some y→f x y=some (eAt f ds es j):=by
 intro ds
 induction ds with
 |nil=>intro es b j x y h h1 h2;exact noS h1
 |cons x xs ih=>
  intro es b j x' y' h h1 h2;cases es with
  |nil=>exact noS h2
  |cons y ys=>
   refine aZ (rg h) fun p q e1 e2 _=>?_
   induction j with
   |zero=>
    obtain rfl:x=x':=c7 h1;obtain rfl:y=y':=c7 h2;exact show f x y=some ((f x y).getD true) by rw[e1];rfl
   |succ j=>exact ih (j:=j) e2 h1 h2
theorem vd (hv:Rvs B P s.heap vs ds) (hw:Rvs B P s.heap ws es) (h:cF f ds es=some b)
  (hf:∀{v w:Value} {d e:V} {b:Bool},Rv B P s.heap v d→Rv B P s.heap w e→f d e=some b→EqAt A s v w b):
  ∀j (h1:j<vs.toArray.size) (h2:j<ws.toArray.size),EqAt A s vs.toArray[j] ws.toArray[j] (eAt f ds es j):=by
 intro j h1 h2;refine av fun gP gO=>?_;have l1:j<ds.length:=hv.length▸h1;have l2:j<es.length:=hw.length▸h2;have g1:=g7 l1;refine aj (hv.get g1) fun v q1 r1=>?_;refine aj (hw.get (g7 l2)) fun w q2 r2=>?_;refine gO ?_;simp only[(c7 ((g7 h1).symm.trans q1):vs.toArray[j]=v),(c7 ((g7 h2).symm.trans q2):ws.toArray[j]=w)];exact hf r1 r2 (vx h g1 (g7 l2))
theorem Hn (h1:s.heap.get? a=some (uP vs n)) (r1:Rvs B P s.heap vs ds)
  (h2:s.heap.get? a'=some (uP ws n')) (r2:Rvs B P s.heap ws es) (hu:A.units<cLine) (h:cF eq0 ds es=some b):RcAt A s (.ref a) (.ref a') b:=by
 have:=RcAt.tuples (A:=A) (s:=s) (e:=eAt eq0 ds es) ⟨_,h1,rfl,n,rfl⟩ ⟨_,h2,rfl,n',rfl⟩ hu (vd r1 r2 h fun x y z=>Ao x y z);simp only[k9,r1.length,r2.length] at this
 rwa [lp h] at this
theorem HV (hu:A.units<cLine) (hv:Rv B P s.heap v d) (hw:Rv B P s.heap w e) (h:eqV d e=some b):EqAt A s v w b:=by
 cases d<;>try exact Ao hv hw h
 refine aj (th h) fun ys z1_ h=>?_;subst z1_;refine jw hv.inv fun a vs n z3_ h1 p1 r1 _=>?_;subst z3_;refine jw hw.inv fun a' ws n' z3_ h2 p2 r2 _=>?_;subst z3_;by_cases hne:a=a'
 ·subst hne;have:vs=ws:=congrArg Array.toList (Data.seq.inj (Obj.mk.inj (c7 (h1.symm.trans h2))).2.2.1).1;subst this;cases vy (fun x y z=>Dz x y z) r1 r2 h;exact EqAt.same _
 ·exact EqAt.of_refs hne (Hn h1 r1 h2 r2 hu h)
end
theorem CI (e:cb σ (.lref a)=some xs):σ a=some (.list xs)∧True:=by
 have e:(match σ a with|some (.list xs)=>some xs|_=>none)=some xs:=e;cases q:σ a with
 |none=>rw[q] at e;exact noS e
 |some o=>
  rw[q] at e
  induction o with
  |list ys=>cases e;exact⟨rfl,trivial⟩
  |_=>exact noS e
set_option tactic.hygienic true in
theorem cI (H:HR B F σ h) (r:Rv B (Pr σ F) h v d) (e:cb σ d=some xs):
  ∃a vs n,v= .ref a∧h.get? a=some (lstO vs n)∧Rvs B (Pr σ F) h vs xs∧xs.length≤ah:=by
 cases d<;>try exact noS e
 ·obtain rfl:=c7 e;refine av fun gP gO=>?_;refine jw r.inv fun a vs n e h1 _ r l=>?_;refine gO ?_;exact⟨a,vs,n,e,h1,r,l⟩
 ·rename_i a
  refine av fun gP gO=>?_;obtain⟨q,e⟩:=CI e;refine aZ (H.ob a _ q) fun vs n h1 r' l=>?_;refine gO ?_;exact⟨a,vs,n,r.inv,h1,r',l⟩
section
variable {F:Addr→Prop} {A:Around} {v w:Value} {d e:V} {b:Bool} {E:Value→Shared→Prop} {Q:Value→Shared→Prop} {prog:Program} {wd:World}
theorem La:∀us:List Value,v∉us→us.any (fun y=>if y=v then p else f y)=us.any f:=by
 intro us
 induction us with
 |nil=>intro _;rfl
 |cons u us ih=>
  intro hm;simp only[L6,L6,i3 (fun q=>hm (q▸(.head _)):u≠v),ih fun z=>hm (.tail _ z)]
theorem qz (hu:A.units<cLine) (hx:Rv B P s.heap x dx) (r:Rvs B P s.heap vs ds) (h:eP dx ds=some b):∃f:Value→Bool,(∀y∈vs,EqAt A s y x (f y))∧vs.any f=b:=by
 refine r.ind (M:=fun vs ds=>∀b,eP dx ds=some b→∃f:Value→Bool,(∀y∈vs,EqAt A s y x (f y))∧vs.any f=b) (fun b h=>⟨fun _=>false,fun y hy=>(w8 hy).elim,c7 h⟩) (fun{v vs d ds} hv hr ih b h=>?_) b h;refine aZ (IU h) fun p q h1 h2 z4_=>?_;subst z4_;refine aj (ih q h2) fun f hf hb=>?_;by_cases hm:v∈vs∧p=false
 ·obtain⟨hm,rfl⟩:=hm;refine⟨f,fun y hy=>(d0.mp hy).elim (fun e=>e▸hf v hm) (hf y),?_⟩;simp only[L6,hb];cases hfv:f v with
  |false=>rfl
  |true=>rw[←hb];exact(z0.mpr ⟨v,hm,hfv⟩).symm
 ·refine⟨fun y=>if y=v then p else f y,fun y hy=>?_,?_⟩
  ·by_cases hyv:y=v
   ·subst hyv;dsimp only;rw[i7 rfl];exact(HV (A:=A) hu hv hx h1)
   ·dsimp only;rw[i3 hyv];exact hf y ((d0.mp hy).resolve_left hyv)
  ·refine er L6 (er (i7 rfl) ?_)
   induction p with
   |true=>rfl
   |false=>rw[La vs fun q=>hm ⟨q,rfl⟩,hb]
noncomputable def opC:Cm→CmpOp
 |.eq=>.Eq|.ne=>.NotEq|.lt=>.Lt|.le=>.LtE|.gt=>.Gt|.ge=>.GtE|.isN=>.Is|.notN=>.IsNot|.inn=>.In|.nin=>.NotIn
theorem wJ (h:cF f ds es=some b) (hl:ds.length=es.length):(List.range ds.length).all (eAt f ds es)=b:=by
 have:=lp h;rw[hl,Nat.min_self,l9,Bool.and_true] at this;rw[hl];exact this
abbrev kU (prog:Program) (wd:World) (A:Around) (s:Shared) (op:CmpOp) (v w:Value) (b:Bool):Prop:=∀{E:Value→Shared→Prop} {Q:Value→Shared→Prop},Q (.bool b) s→wpAny (model prog wd) A (compareOp op v w) Q E s
theorem qw (x y:Array UInt8):decide (x.toList.map (·.toNat)=y.toList.map (·.toNat))=(x.toList==y.toList):=by
 rw[E6,C6,A5];exact⟨fun h=>(List.map_inj_right (fun a b q=>UInt8.toNat_inj.mp q)).mp h,fun h=>by rw[h]⟩
theorem uV (h:n+5<cLine):n+1<cLine:=v9 (B3 (by decide) n) h
theorem kY (h:n+5<cLine):n<cLine:=j0 (f6 n 5) h
theorem Fc (H:HR B F σ s.heap) (hu:A.units+5<cLine) (rv:Rv B (Pr σ F) s.heap v d) (rw':Rv B (Pr σ F) s.heap w e) (h:HW σ d e=some b):kU prog wd A s .Eq v w b∧kU prog wd A s .NotEq v w (!b):=by
 refine av fun gP gO=>?_;obtain⟨xs,e1,h⟩:=nU h;obtain⟨ys,e2,h⟩:=nU h;refine eA (cI H rv e1) fun a vs n z3_ h1 r1 l1=>?_;subst z3_;refine eA (cI H rw' e2) fun a' ws n' z3_ h2 r2 l2=>?_;subst z3_;have z1:s.heap.IsList a vs.toArray:=⟨_,h1,rfl,n,rfl⟩;have z2:s.heap.IsList a' ws.toArray:=⟨_,h2,rfl,n',rfl⟩;refine gO ?_;by_cases hl:xs.length=ys.length
 ·rw[i7 hl] at h;have pl:=vd (A:=A.in1) r1 r2 h fun x y z=>HV (uV hu) x y z;have al:(List.range vs.toArray.size).all (eAt eqV xs ys)=b:=(congrArg (fun n=>(List.range n).all (eAt eqV xs ys)) r1.length).trans (wJ h hl);exact⟨fun{E Q} q=>RcAt.lists z1 z2 (r1.length.trans (hl.trans r2.length.symm)) (kY hu) pl prog wd E Q (by rw[al];exact q),fun{E Q} q=>RcNeAt.lists z1 z2 (r1.length.trans (hl.trans r2.length.symm)) (kY hu) pl prog wd E Q (by rw[al];exact q)⟩
 ·rw[i3 hl] at h;obtain rfl:=c7 h;have hsz:=bne_iff_ne.mpr fun q=>hl (r1.length.symm.trans (q.trans r2.length));exact⟨fun{E Q} q=>RcAt.lists_lengths z1 z2 hsz (kY hu) prog wd E Q q,fun{E Q} q=>RcNeAt.lists_lengths z1 z2 hsz (kY hu) prog wd E Q q⟩
theorem tV (H:HR B F σ s.heap) (hu:A.units+5<cLine) (rv:Rv B (Pr σ F) s.heap v d) (rw':Rv B (Pr σ F) s.heap w e) (h:An σ d e=some b):kU prog wd A s .Eq v w b∧kU prog wd A s .NotEq v w (!b):=by
 cases d<;>try exact Fc H hu rv rw' h
 ·obtain⟨j,rfl,h⟩:=dP h;obtain⟨t,rfl⟩:=rv.inv;refine ar rw'.inv fun u z1_=>?_;subst z1_;obtain rfl:=c7 h;exact⟨fun q=>P.eq_int q,fun q=>P.ne_int q⟩
 ·obtain⟨j,rfl,h⟩:=iq h;obtain⟨x,t,rfl,rfl,_⟩:=rv.inv;refine aZ rw'.inv fun y u z2_ z3_ _=>?_;subst z2_;subst z3_;obtain rfl:=c7 h;exact⟨fun q=>P.eq_str (by rw[rJ];exact q),fun q=>P.ne_str (by rw[bne,rJ];exact q)⟩
 ·obtain⟨j,rfl,h⟩:=DQ h;obtain⟨x,t,rfl,rfl⟩:=rv.inv;refine dU rw'.inv fun y u z2_ z3_=>?_;subst z2_;subst z3_;obtain rfl:=c7 h;exact⟨fun q=>PySem.W.eq_bytes (by rw[←qw];exact q),fun q=>PySem.W.ne_bytes (by rw[bne,←qw];exact q)⟩
 ·obtain⟨ys,rfl,h⟩:=th h;refine jw rv.inv fun a vs n z3_ h1 p1 r1 _=>?_;subst z3_;refine jw rw'.inv fun a' ws n' z3_ h2 p2 r2 _=>?_;subst z3_;refine⟨fun{E Q} q=>Hn h1 r1 h2 r2 (kY hu) h prog wd E Q q,fun{E Q} q=>?_⟩;have:=RcNeAt.tuples (A:=A) (s:=s) (e:=eAt eq0 _ _) ⟨_,h1,rfl,_,rfl⟩ ⟨_,h2,rfl,_,rfl⟩ (kY hu) (vd r1 r2 h fun x y z=>Ao x y z);simp only[k9,r1.length,r2.length] at this;simp only[lp h] at this;exact this prog wd E Q q
theorem yY (h:HL y x=some b):∃a,y=[a]∧x.contains a=b:=by
 cases y with
 |nil=>exact noS h
 |cons a r=>induction r with
  |cons _ _=>exact noS h
  |nil=>exact⟨a,rfl,c7 h⟩
theorem JJ (H:HR B F σ s.heap) (hu:A.units+5<cLine) (rv:Rv B (Pr σ F) s.heap v d) (rw':Rv B (Pr σ F) s.heap w e) (h:kS σ e (fun xs=>eP d xs)=some b):kU prog wd A s .In v w b∧kU prog wd A s .NotIn v w (!b):=by
 obtain⟨xs,e1,h⟩:=nU h;refine eA (cI H rw' e1) fun a vs n z3_ h1 r1 l1=>?_;subst z3_;refine aj (qz (A:=A.in1) (uV hu) rv r1 h) fun f hf z2_=>?_;subst z2_;have hf':=fun y hy=>hf y (List.mem_toArray.mp hy);exact⟨fun q=>in_listAt f ⟨_,h1,rfl,_,rfl⟩ hf' (by rw[H9];exact q),fun q=>notIn_listAt f ⟨_,h1,rfl,_,rfl⟩ hf' (by rw[H9];exact q)⟩
theorem HK (H:HR B F σ s.heap) (hu:A.units+5<cLine) (rv:Rv B (Pr σ F) s.heap v d) (rw':Rv B (Pr σ F) s.heap w e) (h:inV σ d e=some b):kU prog wd A s .In v w b∧kU prog wd A s .NotIn v w (!b):=by
 cases e<;>try exact JJ H hu rv rw' h
 ·obtain⟨y,rfl,h1⟩:=iq h;obtain⟨a,rfl,h2⟩:=yY h1;clear h h1;refine aZ rv.inv fun y' u z2_ hy _=>?_;subst z2_;refine aZ rw'.inv fun x' t z2_ z3_ _=>?_;subst z2_;subst z3_;obtain rfl:y'=⟨#[a]⟩:=lA hy;have:(!(Builtin.Str.occurrences x' ⟨#[a]⟩ 0 x'.length 1).isEmpty)=b:=by
   rw[StrLaws.found_one,E6,C6,←h2,d6]
  exact⟨fun q=>P.in_str (by rw[this];exact q),fun q=>P.notIn_str (by rw[this];exact q)⟩
 ·refine jw rw'.inv fun a vs n z3_ h2 _ r2 _=>?_;subst z3_;refine aj (qz (A:=A.in1) (uV hu) rv r2 h) fun f hf z2_=>?_;subst z2_;exact⟨fun q=>in_tupleAt f ⟨_,h2,rfl,_,rfl⟩ (fun y hy=>hf y (List.mem_toArray.mp hy)) (by rw[H9];exact q),fun q=>notIn_tupleAt f ⟨_,h2,rfl,_,rfl⟩ (fun y hy=>hf y (List.mem_toArray.mp hy)) (by rw[H9];exact q)⟩
theorem HG {f:Int→Int→Bool} {g:Nat→Nat→Bool} {op:CmpOp} (rv:Rv B P s.heap v d) (rw':Rv B P s.heap w e) (h:(match (generalizing:=false) d with|.int i=>jv e fun j=>some (f i j)|.str x=>uS x fun a=>uR e fun y=>uS y fun b=>some (g a b)|_=>none)=some b)
  (hi:∀i j t u,kU prog wd A s op (.int i t) (.int j u) (f i j)) (hs:∀a c x y t u,x.cps.toList=[a]→y.cps.toList=[c]→kU prog wd A s op (.str x t) (.str y u) (g a c)):kU prog wd A s op v w b:=by
 cases d<;>try exact noS h
 ·obtain⟨j,rfl,h⟩:=dP h;obtain⟨t,rfl⟩:=rv.inv;obtain⟨u,rfl⟩:=rw'.inv;obtain rfl:=c7 h;exact fun{E Q}=>hi _ _ _ _
 ·obtain⟨a,rfl,h1⟩:=tE h;obtain⟨y,rfl,h2⟩:=iq h1;obtain⟨c,rfl,h3⟩:=tE h2;obtain⟨x,t,rfl,hx,_⟩:=rv.inv;obtain⟨y,u,rfl,hy,_⟩:=rw'.inv;obtain rfl:=c7 h3;exact fun{E Q}=>hs _ _ _ _ _ _ hx hy
theorem HQ {f:Int→Int→Bool} {op:CmpOp} (rv:Rv B P s.heap v d) (rw':Rv B P s.heap w e) (h:jv d (fun i=>jv e fun j=>some (f i j))=some b)
  (hi:∀i j t u,kU prog wd A s op (.int i t) (.int j u) (f i j)):kU prog wd A s op v w b:=by
 obtain⟨i,rfl,h1⟩:=dP h;obtain⟨j,rfl,h2⟩:=dP h1;obtain⟨t,rfl⟩:=rv.inv;obtain⟨u,rfl⟩:=rw'.inv;obtain rfl:=c7 h2;exact fun{E Q}=>hi _ _ _ _
theorem AH (a c:Nat):decide ([a]<[c])=decide (a<c):=by
 rw[E6,C6,C6,List.cons_lt_cons_iff];exact⟨fun h=>h.elim id fun h=>(List.not_lt_nil [] h.2).elim,.inl⟩
theorem HD (rv:Rv B P s.heap v d) (h:Il d=some b):plainIs v .none=true∧(v== .none)=b:=by
 cases d with
 |unb=>exact noS h
 |none|bool|lref|bref=>exact er (show v=_ from rv.inv) ⟨rfl,c7 h⟩
 |int=>exact ar rv.inv fun _ e=>er e ⟨rfl,c7 h⟩
 |str|bytes=>exact dU rv.inv fun _ _ e _=>er e ⟨rfl,c7 h⟩
 |tup|lst=>exact sN rv.inv fun _ _ _ e _=>er e ⟨rfl,c7 h⟩
 |obj=>exact dU rv.inv fun _ _ e _=>er e ⟨rfl,c7 h⟩
 |fobj=>exact Eh rv.inv fun _ _ _ _ _ e _=>er e ⟨rfl,c7 h⟩
 |exc=>exact(rv.inv:∃_ _ _ _ _ _,_).elim fun _ r=>Eh r fun _ _ _ _ _ e _=>er e ⟨rfl,c7 h⟩
theorem lj {op:Cm} (H:HR B F σ s.heap) (hu:A.units+5<cLine) (rv:Rv B (Pr σ F) s.heap v d) (rw':Rv B (Pr σ F) s.heap w e) (h:fZ σ op d e=some b) (q:Q (.bool b) s):
  wpAny (model prog wd) A (compareOp (opC op) v w) Q E s:=by
 induction op with
 |eq=>exact(tV H hu rv rw' h).1 q
 |ne=>
  refine aj (i8.mp h) fun b' h' z2_=>?_;subst z2_;exact(tV H hu rv rw' h').2 q
 |inn=>exact(HK H hu rv rw' h).1 q
 |nin=>
  refine aj (i8.mp h) fun b' h' z2_=>?_;subst z2_;exact(HK H hu rv rw' h').2 q
 |lt=>exact HG (f:=fun i j=>decide (i<j)) (g:=fun a b=>decide (a<b)) rv rw' h (fun _ _ _ _ _ _ q=>P.lt_int q) (fun a c x y t u hx hy _ _ q=>P.lt_str (by rw[hx,hy,AH];exact q)) q
 |le=>exact HG (f:=fun i j=>decide (i≤j)) (g:=fun a b=>decide (a≤b)) rv rw' h (fun _ _ _ _ _ _ q=>P.le_int q) (fun a c x y t u hx hy _ _ q=>P.le_str (by rw[hx,hy,AH];exact(show(!decide (c<a))=decide (a≤c) by rw[←decide_not,decide_eq_decide];exact t8)▸q)) q
 |gt=>exact HQ (f:=fun i j=>decide (i>j)) rv rw' h (fun _ _ _ _ _ _ q=>P.gt_int q) q
 |ge=>exact HQ (f:=fun i j=>decide (i≥j)) rv rw' h (fun _ _ _ _ _ _ q=>P.ge_int q) q
 |isN=>
  obtain⟨rfl,h⟩:=qg h;cases rw'.inv;obtain⟨h1,rfl⟩:=HD rv h;exact wpAny_is_plain h1 q
 |notN=>
  obtain⟨rfl,h⟩:=qg h;refine aj (i8.mp h) fun b' h' z2_=>?_;subst z2_;cases rw'.inv;obtain⟨h1,rfl⟩:=HD rv h';exact wpAny_isNot_plain h1 q
end
end
section
variable {α β:Type} {KE:Ke}
theorem kX (hc:c.Ok B):c.A.units+5<cLine:=j0 (t7 (f6 _ _) (by decide)) hc.units
set_option backward.match.sparseCases false in
noncomputable def fq:Expr→Bool
 |.Set .. =>false
 |_=>true
theorem CB (h:fq e=true):behindInMarks op e=false:=by cases e<;>first|(cases h;done)|rfl
theorem rz (h:fq e=true):markedEach [op] [e] [t]=[t]:=by
 show[markedBehindIn op e t]=[t];unfold markedBehindIn;exact er (CB h) rfl
theorem xo (h:fq e'=true):markedEach [op,op'] [e,e'] [t,t']=[t,t']:=by
 show t::markedEach [op'] [e'] [t']=[t,t'];exact er (rz h) rfl
theorem tj {v w:Value} {op:CmpOp} {t:Bool} {K:Bool→Sto→Prop} (h:∀{E:Value→Shared→Prop} {Q:Value→Shared→Prop},Q (.bool t) s→wpAny (model B.prog B.w) c.A (compareOp op v w) Q E s) (S:St B c m σ s) (k:K t σ):
  Tri B c (operate [v,w] (compareOp op v w)>>=fun q=>holding [q] (truthy q)) m σ s (fun t M1 _=>K t M1) KE:=by
 refine Tri.bind (P:=fun u M1 s'=>u= .bool t∧K t M1) (wpG.any (F8 (h ⟨σ,S,.refl ..,rfl,k⟩))) fun u ML N2 MU MT q0_=>?_;obtain⟨q,N0⟩:=q0_;subst q;exact .hold (wpG.any (A0 ⟨ML,MU,.refl ..,N0⟩))
theorem ud {α:Type} {v w:Value} {op:CmpOp} {t:Bool} {P:α→Sto→Shared→Prop} {g:Value→Sem α} {f:Value→Sem α} (h:∀{E:Value→Shared→Prop} {Q:Value→Shared→Prop},Q (.bool t) s→wpAny (model B.prog B.w) c.A (compareOp op v w) Q E s) (S:St B c m σ s)
  (k:Tri B c (if t=true then g w else f (.bool t)) m σ s P KE):
  Tri B c (holding [v,w] (compareOp op v w)>>=fun q=>release [v,w] [q]>>=fun _=>holding [q,w] (truthy q)>>=fun t=>if t=true then g w else f q) m σ s P KE:=by
 refine Tri.bind (P:=fun u M1 s'=>u= .bool t∧M1=σ∧s'=s) (.hold (wpG.any (h ⟨σ,S,.refl ..,rfl,rfl,rfl⟩))) fun u ML N2 MU MT q0_=>?_;refine cQ q0_ fun q1 q2 q3=>?_;subst q1;subst q2;subst q3;exact aa (me (aa (ay (wpG.any (A0 k)))))
theorem Ka (hc:c.Ok B) (hs:fq eb=true) (ha:EX B c Sp gv a ea) (hb:EX B c Sp gv b eb):EX B c Sp gv (.cmp op a b) (.Compare ea [opC op] [eb] pos):=by
 intro m σ s K KE h S;show Tri B c (eval ea c.env>>=fun v=>compareChain pos v [opC op] (markedEach [opC op] [eb] [eval eb c.env])) m σ s _ KE;refine er (rz hs) ?_;refine(ha _ _ _ _ _ h S).bind fun v J M0 M3 M6 ⟨d,r,k⟩=>?_;refine(Tri.hold (hb _ _ _ _ _ k M3)).bind fun w M2 M8 M7 MM ⟨e,MR,MP⟩=>.stand (wpG.any (F8 ?_));refine av fun gP gO=>?_;refine aj (cy MP) fun t ht MP=>?_;refine gO ?_;exact lj M7.hr (kX hc) (MM.rv hc r) MR ht ⟨M2,M7,.refl ..,_,.bool _,MP⟩
theorem et_cmp (hc:c.Ok B) {op:Cm} {a b:X} {ea eb:Expr} {pos:Pos} (hs:fq eb=true) (ha:EX B c Sp gv a ea) (hb:EX B c Sp gv b eb):ET B c Sp gv (.cmp op a b) (.Compare ea [opC op] [eb] pos):=by
 intro m σ s K KE h S;show Tri B c (eval ea c.env>>=fun v=>testChain pos v [opC op] (markedEach [opC op] [eb] [eval eb c.env])) m σ s _ KE;refine er (rz hs) ?_;refine(ha _ _ _ _ _ h S).bind fun v J M0 M3 M6 q0_=>?_;obtain⟨d,r,k⟩:=q0_;refine(Tri.hold (hb _ _ _ _ _ k M3)).bind fun w M2 M8 M7 MM ⟨e,MR,MP⟩=>.stand ?_;refine aj (cy MP) fun t ht MP=>?_;exact tj (lj M7.hr (kX hc) (MM.rv hc r) MR ht) M7 MP
theorem Gw (hc:c.Ok B) {op op':Cm} {a b d:X} {ea eb ed:Expr} {pos:Pos} (hs:fq ed=true) (ha:EX B c Sp gv a ea) (hb:EX B c Sp gv b eb) (hd:EX B c Sp gv d ed):EX B c Sp gv (.cmp2 op op' a b d) (.Compare ea [opC op,opC op'] [eb,ed] pos):=by
 intro m σ s K KE h S;show Tri B c (eval ea c.env>>=fun v=>compareChain pos v [opC op,opC op'] (markedEach [opC op,opC op'] [eb,ed] [eval eb c.env,eval ed c.env])) m σ s _ KE;refine er (xo hs) ?_;refine(ha _ _ _ _ _ h S).bind fun v J M0 M3 M6 ⟨N6,r,k⟩=>?_;refine(Tri.hold (hb _ _ _ _ _ k M3)).bind fun w M2 M8 M7 MM ⟨N7,MR,MP⟩=>.stand ?_;refine aj (cy MP) fun t ht MP=>?_;refine ud (g:=fun w=>compareChain pos w [opC op'] [eval ed c.env]) (f:=Pure.pure) (lj M7.hr (kX hc) (MM.rv hc r) MR ht) M7 ?_;cases t with
 |false=>exact ac ⟨_,M7,.refl ..,_,.bool _,MP⟩
 |true=>
  refine(Tri.hold (hd _ _ _ _ _ MP M7)).bind fun x MQ Np N3 N5 ⟨Na,Nr,N0⟩=>.stand (wpG.any (F8 ?_));refine av fun gP gO=>?_;refine aj (cy N0) fun NB NH N0=>?_;refine gO ?_;exact lj N3.hr (kX hc) (N5.rv hc MR) Nr NH ⟨_,N3,.refl ..,_,.bool _,N0⟩
theorem et_cmp2 (hc:c.Ok B) {op op':Cm} {a b d:X} {ea eb ed:Expr} {pos:Pos} (hs:fq ed=true) (ha:EX B c Sp gv a ea) (hb:EX B c Sp gv b eb) (hd:EX B c Sp gv d ed):ET B c Sp gv (.cmp2 op op' a b d) (.Compare ea [opC op,opC op'] [eb,ed] pos):=by
 intro m σ s K KE h S;show Tri B c (eval ea c.env>>=fun v=>testChain pos v [opC op,opC op'] (markedEach [opC op,opC op'] [eb,ed] [eval eb c.env,eval ed c.env])) m σ s _ KE;refine er (xo hs) ?_;refine(ha _ _ _ _ _ h S).bind fun v J M0 M3 M6 q0_=>?_;obtain⟨N6,r,k⟩:=q0_;refine(Tri.hold (hb _ _ _ _ _ k M3)).bind fun w M2 M8 M7 MM ⟨N7,MR,MP⟩=>.stand ?_;refine aj (cy MP) fun t ht MP=>?_;refine ud (g:=fun w=>testChain pos w [opC op'] [eval ed c.env]) (f:=fun _=>Pure.pure false) (lj M7.hr (kX hc) (MM.rv hc r) MR ht) M7 ?_;cases t with
 |false=>exact ac ⟨_,M7,.refl ..,MP⟩
 |true=>
  refine(Tri.hold (hd _ _ _ _ _ MP M7)).bind fun x MQ Np N3 N5 ⟨Na,Nr,N0⟩=>.stand ?_;refine aj (cy N0) fun NB NH N0=>?_;exact tj (lj N3.hr (kX hc) (N5.rv hc MR) Nr NH) N3 N0
theorem aS (h:n≤ah):n≤sizeLine:=b9 h (by rw[H4];decide)
theorem Tri.newList (hc:c.Ok B) {vs:List Value} {ds:List V} {K:Kx} (S:St B c m σ s) (r:Rvs B (Pr σ c.F) s.heap vs ds) (hl:ds.length≤ah) (k:K (.lst ds) σ) (t:Nat):
  PostX B c m σ s (PV B c K) ((.ref s.heap.objs.size)) {s with heap:=s.heap.push (lstO vs 0),toks:=t}:=by
 have N:=Nq.push c σ s (lstO vs 0) t;exact⟨σ,S.push hc _ t,N,_,.lst (i2 _ rfl) ⟨S.fresh.1,S.fresh.2.1⟩ (N.rvs hc r) hl,k⟩
theorem Tri.newTup (hc:c.Ok B) {vs:List Value} {ds:List V} {K:Kx} (S:St B c m σ s) (r:Rvs B (Pr σ c.F) s.heap vs ds) (hl:ds.length≤ah) (k:K (.tup ds) σ) (t:Nat):
  PostX B c m σ s (PV B c K) ((.ref s.heap.objs.size)) {s with heap:=s.heap.push (uP vs 0),toks:=t}:=by
 have N:=Nq.push c σ s (uP vs 0) t;exact⟨σ,S.push hc _ t,N,_,.tup (i2 _ rfl) ⟨S.fresh.1,S.fresh.2.1⟩ (N.rvs hc r) hl,k⟩
theorem Tri.newListM (hc:c.Ok B) {vs:List Value} {ds:List V} {K:Kx} (S:St B c m σ s) (r:Rvs B (Pr σ c.F) s.heap vs ds) (hl:ds.length≤ah) (k:qK σ (.list ds) fun a M1=>K (.lref a) M1) (t:Nat):
  PostX B c m σ s (PV B c K) ((.ref s.heap.objs.size)) {s with heap:=s.heap.push (lstO vs 0),toks:=t}:=by
 have S':St B c m (σ.put s.heap.objs.size (.list ds)) {s with heap:=s.heap.push (lstO vs 0),toks:=t}:=
  S.put_new hc t ⟨vs,0,i2 _ rfl,(Nq.put_new c σ s (lstO vs 0) (.list ds) t).rvs hc r,hl⟩
 exact⟨_,S',(Nq.put_new c σ s (lstO vs 0) (.list ds) t),_,.lref _,k _ S.fresh.1⟩
theorem CN (hc:c.Ok B) {mu:Bool} {vs:List Value} {ds:List V} {K:Kx} (S:St B c m σ s) (r:Rvs B (Pr σ c.F) s.heap vs ds) (k:pQ mu ds σ K):Tri B c (newList vs) m σ s (PV B c K) KE:=by
 obtain⟨hl,k⟩:=k;refine wpG.any (y5 ?_ (by show vs.toArray.size≤sizeLine;rw[k9,r.length];exact aS hl))
 induction mu with
 |false=>exact Tri.newList hc S r hl k _
 |true=>exact Tri.newListM hc S r hl k _
theorem Gq (hc:c.Ok B) (h:EXs B c Sp gv xs es):EX B c Sp gv (.list mu xs) (.List es pos):=by
 intro m σ s K KE hv S;exact .stand ((h _ _ _ _ _ pos hv S).bind fun vs J M0 M3 M6 q0_=>by obtain⟨ds,r,k⟩:=q0_;exact CN hc M3 r k)
theorem JR (hc:c.Ok B) {xs:XL} {es:List Expr} {n:Nat} {pos:Pos} (h:EXs B c Sp gv xs es):EX B c Sp gv (.tup xs) (.Tuple es n pos):=by
 intro m σ s K KE hv S;refine .stand ((h _ _ _ _ _ pos hv S).bind fun vs J M0 M3 M6 q0_=>?_);refine eQ q0_ fun ds r hd k=>?_;refine wpG.any (y5 ?_ (by show vs.toArray.size≤sizeLine;rw[k9,r.length];exact aS (b9 hd (by unfold ah;decide))));exact Tri.newTup hc M3 r (b9 hd (by unfold ah;decide)) k _
end
noncomputable def opB:Op→Operator
 |.add=>.Add|.sub=>.Sub|.mul=>.Mult|.mod=>.Mod|.fdiv=>.FloorDiv|.pow=>.Pow|.shl=>.LShift|.shr=>.RShift|.bor=>.BitOr|.band=>.BitAnd
section
variable {α β:Type} {KE:Ke}
theorem Tri.int {K:Kx} (S:St B c m σ s) {i:Int} (t k:Nat) (h:K (.int i) σ):PostX B c m σ s (PV B c K) (.int i t) {s with toks:=k}:=
 ⟨σ,S.toks k,.toks ..,_,.int i t,h⟩
theorem Tri.str {K:Kx} (S:St B c m σ s) {x:PySem.Str} {l:List Nat} (hx:x.cps.toList=l) (hl:l.length≤ah) (t k:Nat) (h:K (.str l) σ):PostX B c m σ s (PV B c K) (.str x t) {s with toks:=k}:=
 ⟨σ,S.toks k,.toks ..,_,.str x t hx hl,h⟩
theorem Fs {α:Type} (x:α):∀n:Nat,List.foldl (fun x1 x2=>x1++x2) (#[]:Array α) (List.replicate n #[x])=(List.replicate n x).toArray:=by
 have key:∀n (a:Array α),List.foldl (fun x1 x2=>x1++x2) a (List.replicate n #[x])=a++(List.replicate n x).toArray:=by
  intro n
  induction n with
  |zero=>intro a;simp
  |succ n ih=>intro a;rw[List.replicate_succ,List.foldl_cons,ih,List.replicate_succ];apply Array.ext';simp
 intro n;rw[key];simp
theorem FO (hl:s.heap.get? l=some (lstO [x] n)) (h0:0≤j) (h1:j≤100)
  (h:Q (.ref s.heap.objs.size) {s with heap:=s.heap.push (lstO (List.replicate j.toNat x) 0)}):wpAny (model prog w) A (binaryOp .Mult (.ref l) (.int j u)) Q E s:=by
 refine wpAny_binaryOp_repeat_ref (T:="list") (U:="int") (by decide) ⟨_,hl,rfl⟩ (fun s'=>typeIs_int s' j u) noFill_list_mul F.fills_int_mul F.slot_int_rmul repeat_list F.slot_int_index.lookup
  (D1 F.slot_int_rmul (typeIs_int s j u) F.entry_int_rmul (F.args_int_rmul_2 _ _) (int___rmul___int_list j u l [x].toArray n) ⟨hl,rfl,⟨_,hl,rfl⟩,?_⟩)
 refine D1 F.slot_list_mul ⟨_,hl,rfl⟩ F.entry_list_mul (F.args_list_mul_2 _ _)
  (AutoListH.list___mul___list_int_3 l [x].toArray n j u (by simp[Builtin.List.listFitsIndex];lia) (by show ¬1*j.toNat>_;lia) (by show ¬(Builtin.List.listTooLong (1*j.toNat)=true);simp[Builtin.List.listTooLong,sizeLine];lia)) ⟨hl,?_⟩
 exact(Fs x _)▸h
theorem eF {P:Addr→Prop} {h:Heap} {v w:Value} {d e:V} {f:Int→Int→Prop} (rv:Rv B P h v d) (rw':Rv B P h w e) (k:dz d fun i=>dz e fun j=>f i j):∃i j t u,v= .int i t∧w= .int j u∧f i j:=by
 refine av fun gP gO=>?_;refine aj (cJ k) fun i z1_ k1=>?_;subst z1_;refine aj (cJ k1) fun j z1_ k2=>?_;subst z1_;obtain⟨t,e1⟩:=rv.inv;refine ar rw'.inv fun u e2=>?_;refine gO ?_;exact⟨i,j,t,u,e1,e2,k2⟩
theorem Fj (r:Rv B P h v x):∀n:Nat,Rvs B P h (List.replicate n v) (List.replicate n x):=by
 intro n
 induction n with
 |zero=>exact .nil
 |succ n ih=>exact .cons r ih
theorem Hi (hc:c.Ok B) {v w:Value} {d e:V} {K:Kx} (S:St B c m σ s) (rv:Rv B (Pr σ c.F) s.heap v d) (rw':Rv B (Pr σ c.F) s.heap w e) (k:jm σ d fun xs=>jm σ e fun ys=>xs.length+ys.length≤ah∧K (.lst (xs++ys)) σ):
  dA B c (binaryOp .Add v w) m σ s (PV B c K) KE:=by
 refine av fun gP gO=>?_;refine aj (gu k) fun xs e1 k=>?_;refine eQ (gu k) fun ys e2 hl k=>?_;refine eA (cI S.hr rv e1) fun a vs n z3_ h1 r1 l1=>?_;subst z3_;refine eA (cI S.hr rw' e2) fun a' ws n' z3_ h2 r2 l2=>?_;subst z3_;refine gO ?_;refine P.add_list h1 h2 ?_ (by rw[k9,k9,r1.length,r2.length];exact aS hl);have:=Tri.newList hc S (r1.append r2) (by rw[b0];exact hl) k s.toks;rw[K4];exact this
theorem FN (hc:c.Ok B) {v w:Value} {d:V} {j:Int} {K:Kx} (S:St B c m σ s) (rv:Rv B (Pr σ c.F) s.heap v d) (rw':Rv B (Pr σ c.F) s.heap w (.int j)) (k:jm σ d fun xs=>ig xs fun x=>(0≤j∧j≤100)∧K (.lst (List.replicate j.toNat x)) σ):
  dA B c (binaryOp .Mult v w) m σ s (PV B c K) KE:=by
 refine av fun gP gO=>?_;refine aj (gu k) fun xs e1 k=>?_;obtain⟨x,rfl,k,kk⟩:=gx k;refine eA (cI S.hr rv e1) fun a vs n z3_ h1 r1 l1=>?_;subst z3_;refine ar rw'.inv fun u z1_=>?_;subst z1_;refine aZ r1.inv fun y r z2_ rx rr=>?_;subst z2_;refine gO ?_;cases rr.inv;exact FO h1 k.1 k.2 (Tri.newList hc S (Fj rx _) (by rw[u4];exact b9 (I6.mpr k.2) (by decide)) kk _)
theorem Mj (hc:c.Ok B) {op:Op} {v w:Value} {d e:V} {K:Kx} (S:St B c m σ s) (rv:Rv B (Pr σ c.F) s.heap v d) (rw':Rv B (Pr σ c.F) s.heap w e) (k:opV op d e σ K):
  dA B c (binaryOp (opB op) v w) m σ s (PV B c K) KE:=by
 induction op with
 |add=>
  cases d<;>try exact Hi hc S rv rw' k
  ·obtain⟨j,rfl,k⟩:=cJ k;obtain⟨t,rfl⟩:=rv.inv;refine ar rw'.inv fun u z1_=>?_;subst z1_;exact P.add_int (Tri.int S _ _ k)
  ·refine av fun gP gO=>?_;refine aj (nR k) fun j z1_ k=>?_;subst z1_;refine aZ rv.inv fun x t z2_ hx lx=>?_;subst z2_;refine aZ rw'.inv fun y u z2_ hy ly=>?_;subst z2_;refine gO ?_;refine SB.add (fun t' n=>Tri.str (l:=_++_) S (B4.trans (by rw[hx,hy])) (by rw[b0];exact k.1) t' n k.2) (aS ?_);have e:x.length+y.length=x.cps.toList.length+y.cps.toList.length:=rfl;rw[e,hx,hy];exact k.1
 |sub=>obtain⟨i,j,t,u,rfl,rfl,k⟩:=eF rv rw' k;exact P.sub_int (Tri.int S _ _ k)
 |mul=>
  refine aj (cJ k) fun j z1_ k1=>?_;subst z1_;clear k;cases d<;>try exact FN hc S rv rw' k1
  refine ar rv.inv fun t z1_=>?_;subst z1_;refine ar rw'.inv fun u z1_=>?_;subst z1_;exact P.mul_int (Tri.int S _ _ k1.2) k1.1
 |mod=>obtain⟨i,j,t,u,rfl,rfl,k⟩:=eF rv rw' k;exact mod_int' k.1.1 (Tri.int S _ _ k.2)
 |fdiv=>obtain⟨i,j,t,u,rfl,rfl,k⟩:=eF rv rw' k;exact floordiv_int k.1.1 (Tri.int S _ _ k.2) (.inl (PyProof.noPylong_small k.1.2))
 |pow=>obtain⟨i,j,t,u,rfl,rfl,k⟩:=eF rv rw' k;exact pow_int k.1.1 k.1.2 (Tri.int S _ _ k.2)
 |shl=>obtain⟨i,j,t,u,rfl,rfl,k⟩:=eF rv rw' k;exact lshift_int_small k.1.1.1 k.1.1.2 k.1.2 (Tri.int S _ _ k.2)
 |shr=>obtain⟨i,j,t,u,rfl,rfl,k⟩:=eF rv rw' k;exact rshift_int k.1 (Tri.int S _ _ k.2)
 |bor=>obtain⟨i,j,t,u,rfl,rfl,k⟩:=eF rv rw' k;exact or_int (Tri.int S _ _ k)
 |band=>obtain⟨i,j,t,u,rfl,rfl,k⟩:=eF rv rw' k;exact and_int (Tri.int S _ _ k)
theorem Kf (hc:c.Ok B) (ha:EX B c Sp gv a ea) (hb:EX B c Sp gv b eb):EX B c Sp gv (.bin op a b) (.BinOp ea (opB op) eb pos):=by
 intro m σ s K KE h S;refine(ha _ _ _ _ _ h S).bind fun v J M0 M3 M6 ⟨d,r,k⟩=>?_;refine(Tri.hold (hb _ _ _ _ _ k M3)).bind fun w M2 M8 M7 MM ⟨e,MR,MP⟩=>.stand (wpG.any (F8 ?_));exact Mj hc M7 (MM.rv hc r) MR MP
theorem JV {a:X} {ea:Expr} {pos:Pos} (ha:EX B c Sp gv a ea):EX B c Sp gv (.neg a) (.UnaryOp .USub ea pos):=by
 intro m σ s K KE h S;refine(ha _ _ _ _ _ h S).bind fun v J M0 M3 M6 ⟨d,r,k⟩=>.stand (.hold ?_);refine aj (cJ k) fun i z1_ k=>?_;subst z1_;obtain⟨t,rfl⟩:=r.inv;exact wpG.any (P.neg_int (Tri.int M3 _ _ k))
theorem rD (h:idx n i=some j):(0≤i∧j=i.toNat∧j<n)∨(i<0∧0≤i+n∧j=(i+n).toNat):=by
 unfold idx at h;by_cases h0:0≤i
 ·rw[i7 h0] at h;by_cases h1:i.toNat<n
  ·rw[i7 h1] at h;obtain rfl:=c7 h;exact .inl ⟨h0,rfl,h1⟩
  ·rw[i3 h1] at h;exact noS h
 ·rw[i3 h0] at h;by_cases h1:0≤i+n
  ·rw[i7 h1] at h;obtain rfl:=c7 h;exact .inr ⟨I7.mp h0,h1,rfl⟩
  ·rw[i3 h1] at h;exact noS h
theorem xv (h:idx n i=some j):seqIndex? i n=some j:=by
 obtain⟨h0,rfl,h1⟩|⟨h0,h1,rfl⟩:=rD h
 ·exact StrLaws.seqIndex_nonneg h0 ((x8 h0).mp h1)
 ·exact StrLaws.seqIndex_neg h0 (by lia)
theorem iD (h:idx n i=some j) (hn:n≤ah): -(2^63)≤i∧i<2^63:=by
 have hN:(n:Int)≤2^63:=u5 (n8.mpr hn) (by decide);rcases rD h with ⟨h0,rfl,h1⟩|⟨h0,h1,-⟩
 ·exact⟨u5 (by decide) h0,Int.lt_of_lt_of_le ((x8 h0).mp h1) hN⟩
 ·have:=Int.add_le_add_right h1 (-(n:Int));rw[Int.zero_add,Int.add_neg_cancel_right] at this;exact⟨u5 (Int.neg_le_neg hN) this,Int.lt_trans h0 (by decide)⟩
set_option tactic.hygienic true in
theorem jV (slice:Expr) (o i:Value):∃ops,subscripted slice false o i=operate ops (getItem o i):=by
 cases slice<;>try exact⟨_,rfl⟩
 rename_i st _
 cases st<;>exact⟨_,rfl⟩
theorem pG (hl:s.heap.get? l=some (lstO vs n)) (hj:idx vs.length i=some j)
  (hlo: -(2^63)≤i) (hhi:i<2^63) (hy:vs[j]?=some y) (h:Q y s):wpAny (model prog w) A (getItem (.ref l) (.int i u)) Q E s:=by
 have hL:s.heap.IsList l vs.toArray:=⟨_,hl,rfl,_,rfl⟩;obtain⟨h0,rfl,h1⟩|⟨h0,h1,rfl⟩:=rD hj
 ·exact wpAny_getItem_list hL h0 hhi (I4.trans hy) h
 ·exact wpAny_getItem_list_neg hL h0 (by show -(vs.length:Int)≤i;lia) hlo (I4.trans hy) h
theorem ER (hc:c.Ok B) {v:Value} {i:Int} {u:Tok} {d:V} {K:Kx} (S:St B c m σ s) (rv:Rv B (Pr σ c.F) s.heap v d) (k:jm σ d fun xs=>atK xs i fun v=>K v σ) {ev es:Expr}:
  dA B c (subscriptTail ev es v (.int i u)) m σ s (PV B c K) KE:=by
 refine av fun gP gO=>?_;refine ar (jV es v (.int i u)) fun ops hs=>?_;refine aj (gu k) fun xs e1 k=>?_;refine aZ (rM k) fun j y q1 q2 k=>?_;refine eA (cI S.hr rv e1) fun a vs n z3_ h1 r1 l1=>?_;subst z3_;obtain⟨f1,f2⟩:=iD q1 l1;refine aj (r1.get q2) fun x x1 x2=>?_;refine gO ?_;exact tail_any (T:="list") ⟨_,h1,rfl⟩ F.slot_list_getitem.lookup (pG h1 (by rw[r1.length];exact q1) f1 f2 x1 ⟨σ,S,.refl ..,_,x2,k⟩) hs
theorem IY (hc:c.Ok B) {v w:Value} {d e:V} {K:Kx} (S:St B c m σ s) (rv:Rv B (Pr σ c.F) s.heap v d) (rw':Rv B (Pr σ c.F) s.heap w e) (k:uQ d e σ K) {ev es:Expr}:
  dA B c (subscriptTail ev es v w) m σ s (PV B c K) KE:=by
 refine aj (cJ k) fun i z1_ k1=>?_;subst z1_;clear k;obtain⟨u,rfl⟩:=rw'.inv;obtain⟨ops,hs⟩:=jV es v (.int i u);cases d<;>try exact ER hc S rv k1
 ·refine av fun gP gO=>?_;refine aZ (rM k1) fun j ch q1 q2 k=>?_;refine aZ rv.inv fun x t z2_ z3_ lx=>?_;subst z2_;subst z3_;refine gO ?_;exact tail_any (B8 s x t) F.slot_str_getitem.lookup (P.getItem_str (c:=ch) (by rw[c9 (r8.mpr (iD q1 lx).1),c9 (I7.mpr (iD q1 lx).2)];rfl) (by rw[show x.length=x.cps.toList.length from rfl,xv q1];exact Array.getElem?_toList.symm.trans q2) (Tri.str S (l:=[ch]) rfl (by show 1≤ah;decide) _ _ k)) hs
 ·refine av fun gP gO=>?_;refine aZ (rM k1) fun j y q1 q2 k=>?_;refine jw rv.inv fun a vs n z3_ h1 p1 r1 l1=>?_;subst z3_;refine aj (r1.get q2) fun x x1 x2=>?_;refine gO ?_;exact tail_any (T:="tuple") ⟨_,h1,rfl⟩ F.slot_tuple_getitem.lookup (PyProof.Rows.getItem_tuple (⟨_,h1,rfl,_,rfl⟩) (iD q1 l1).1 (iD q1 l1).2 (j:=j) (x:=x) (by rw[k9,r1.length];exact xv q1) (I4.trans x1) ⟨σ,S,.refl ..,_,x2,k⟩) hs
theorem ey (value slice:Expr) (pos:Pos) (env:Env):eval (.Subscript value slice pos) env=(eval value env>>=fun o=>holding [o] (eval slice env)>>=fun i=>standAt pos>>=fun _=>subscriptTail value slice o i):=by
 rw[PySem.eval_Subscript];rfl
theorem JS (hc:c.Ok B) (ha:EX B c Sp gv a ea) (hb:EX B c Sp gv b eb):EX B c Sp gv (.sub a b) (.Subscript ea eb pos):=by
 intro m σ s K KE h S;rw[ey];refine(ha _ _ _ _ _ h S).bind fun v J M0 M3 M6 q0_=>?_;obtain⟨d,r,k⟩:=q0_;refine(Tri.hold (hb _ _ _ _ _ k M3)).bind fun w M2 M8 M7 MM ⟨e,MR,MP⟩=>.stand ?_;exact(IY hc M7 (MM.rv hc r) MR MP).up
end
section
set_option backward.match.sparseCases false
theorem yM {α:Type} (M:List α) (k:Nat):k≤M.length→(List.range k).filterMap (fun i=>M[i]?)=M.take k:=by
 induction k with
 |zero=>exact fun _=>rfl
 |succ k ih=>
  intro h;refine er List.range_succ (er List.filterMap_append (er (ih (G6 h)) (er List.take_add_one ?_)));refine congrArg _ ?_;refine er y9 (er List.filterMap_nil ?_);cases M[k]?<;>rfl
theorem tC {α:Type} (L:List α) (a b:Nat) (hb:b≤L.length):((List.range (b - a)).map (fun k=>a+k)).filterMap (fun i=>L[i]?)=(L.take b).drop a:=by
 simp only[List.drop_take,List.filterMap_map];have:((fun i=>L[i]?)∘fun k=>a+k)=fun i=>(L.drop a)[i]?:=by funext i;simp
 refine er this ?_;exact yM (L.drop a) (b - a) (by rw[z4];exact I8 hb a)
theorem lD (a b:Nat):sliceRange (a:Int) (b:Int) 1=(List.range (b - a)).map (fun k=>a+k):=by
 unfold sliceRange;dsimp only;refine er (i7 (by decide)) ?_;have e:((if (a:Int)<b then((b:Int) - a+1 - 1)/1 else 0):Int).toNat=b - a:=by
  rw[Int.ediv_one,Int.add_sub_cancel];by_cases h:(a:Int)<b
  ·rw[i7 h];exact Int.toNat_sub b a
  ·rw[i3 h];exact(I5 (n8.mp (r8.mp h))).symm
 refine er e ?_;exact K5 fun k _=>by rw[Int.one_mul,←Int.natCast_add,r9]
noncomputable def fJ (n:Nat):Option Int→Nat→Nat
 |none,d=>d
 |some i,_=>di n i
theorem om (n:Nat) (i:Int):max 0 (min (if i<0 then i+(n:Int) else i) n)=((di n i:Nat):Int):=by
 unfold di;by_cases h:i<0
 ·rw[i7 h,i7 h,Int.min_eq_left (u5 (Int.add_le_add_right (Int.le_of_lt h) n) (Int.le_of_eq (Int.zero_add _))),Int.ofNat_toNat,Int.max_comm]
 ·refine ar (Int.eq_ofNat_of_zero_le (r8.mp h)) fun k z1_=>?_;subst z1_;rw[i3 h,i3 h,r9];rcases Nat.le_total k n with q|q
  ·simp only[Nat.min_eq_left q,Int.min_eq_left (n8.mpr q),Int.max_eq_right (g9 k)]
  ·simp only[Nat.min_eq_right q,Int.min_eq_right (n8.mpr q),Int.max_eq_right (g9 n)]
theorem DK (n:Nat) (i:Int):di n i≤n:=n8.mp (om n i▸Int.max_le.mpr ⟨g9 n,Int.min_le_right _ _⟩)
theorem xP (n:Nat) (v:Option Int) (d:Nat):(match v with|none=>(d:Int)|some i=>max 0 (min (if i<0 then i+(n:Int) else i) n))=(fJ n v d:Int):=by
 induction v with
 |none=>rfl
 |some i=>exact om n i
theorem rK (n:Nat) (v:Option Int) (d:Nat) (hd:d≤n):fJ n v d≤n:=by
 induction v with
 |none=>exact hd
 |some i=>exact DK n i
theorem li {α:Type} (L:List α) (lo hi:Option Int):cut L lo hi=(L.take (fJ L.length hi L.length)).drop (fJ L.length lo 0):=by
 cases lo<;>cases hi<;>rfl
theorem xu (n:Nat) (lo hi:Option Int):Builtin.Str.strSliceIndices lo hi 1 n=sliceRange (fJ n lo 0) (fJ n hi n) 1:=by
 refine er (xP n lo 0).symm (er (xP n hi n).symm ?_);rfl
theorem EW {α:Type} (L:List α) (lo hi:Option Int):(Builtin.Str.strSliceIndices lo hi 1 L.length).filterMap (fun i=>L[i]?)=cut L lo hi:=by
 simp only[xu,lD,tC L _ _ (rK _ _ _ (f3 _)),li]
theorem uz (n:Nat) (lo hi:Option Int):(Builtin.Str.strSliceIndices lo hi 1 n).length=fJ n hi n - fJ n lo 0:=by
 simp only[xu,lD,f7,A1]
theorem zC (n:Nat) (lo hi:Option Int):sliceBounds lo hi none n=(((fJ n lo 0:Nat):Int),((fJ n hi n:Nat):Int),(1:Int)):=by
 unfold sliceBounds;dsimp only[Option.getD_none];simp only[show((1:Int)>0)=True from by decide,if_true];cases lo<;>cases hi<;>simp only[fJ,om]<;>rfl
theorem CM (vs:List Value) (lo hi:Option Int):slicePick vs.toArray lo hi none=(cut vs lo hi).toArray:=by
 unfold slicePick;rw[zC];rw[lD,li,←tC vs _ _ (rK _ _ _ (f3 _))];refine congrArg List.toArray (congrArg (fun f=>List.filterMap f _) ?_);funext i;simp
theorem jK {α:Type} (L:List α) (lo hi:Option Int):(cut L lo hi).length≤L.length:=by
 rw[li,z4,List.length_take];exact b9 (F9 _ _) (Nat.min_le_right _ _)
theorem tm (r:Rvs B P h vs ds):∀k,Rvs B P h (vs.take k) (ds.take k):=
 r.ind (M:=fun vs ds=>∀k,Rvs B P h (vs.take k) (ds.take k)) (fun k=>by rw[List.take_nil,List.take_nil];exact .nil) fun{v vs d ds} a _ ih k=>match k with
  |0=>.nil
  |k+1=>.cons a (ih k)
theorem DA (r:Rvs B P h vs ds):∀k,Rvs B P h (vs.drop k) (ds.drop k):=
 r.ind (M:=fun vs ds=>∀k,Rvs B P h (vs.drop k) (ds.drop k)) (fun k=>by rw[L7,L7];exact .nil) fun{v vs d ds} a r ih k=>match k with
  |0=>.cons a r
  |k+1=>ih k
theorem GU (r:Rvs B P h vs ds) (lo hi:Option Int):Rvs B P h (cut vs lo hi) (cut ds lo hi):=by
 simp only[li,li,r.length];exact DA (tm r _) _
section
variable {α β:Type} {KE:Ke}
theorem oV (r:Rv B P h v d) (e:gJ d=some o):∃p:Option (Int×Tok),p.map (·.1)=o∧v=partValue p:=by
 cases d<;>try exact noS e
 ·cases e;exact⟨none,rfl,r.inv⟩
 ·refine ar r.inv fun t e'=>?_;cases e;exact⟨some (_,t),rfl,e'⟩
theorem xg (p:Option (Int×Tok)):IsPart (partValue p) (p.map (·.1)):=by
 induction p with
 |none=>exact .none
 |some q=>exact .int q.1 q.2
theorem zu {α:Type} {L:List α} {lo hi:Option Int} (h:fJ L.length hi L.length - fJ L.length lo 0=L.length):cut L lo hi=L:=by
 rw[li];have h3:=Nat.le_antisymm (rK L.length hi L.length (f3 _)) (b9 (j8 h.symm) (F9 _ _));rw[h3] at h⊢;refine er List.take_length ?_;by_cases z:fJ L.length lo 0=0
 ·rw[z];rfl
 ·exact er (List.eq_nil_of_length_eq_zero (E7 fun w=>absurd h (s9 (Nat.sub_lt (Nat.pos_of_ne_zero w) (Nat.pos_of_ne_zero z))):L.length=0)) (er L7 rfl)
theorem qf (el:pl.map (·.1)=l) (eh:ph.map (·.1)=h):(slicePicked x pl ph none).filterMap (x.cps[·]?)=cut x.cps.toList l h:=by
 subst el;subst eh;rw[←EW];exact congrArg (fun f=>List.filterMap f _) (funext fun i=>Array.getElem?_toList.symm)
theorem yx {v:Value} {x:List Nat} {pl ph:Option (Int×Tok)} {l h:Option Int} {a:Addr} {K:Kx} (S:St B c m σ s) (rv:Rv B (Pr σ c.F) s.heap v (.str x)) (hs:s.heap.get? a=some {cls:=.type "slice",data:=.fields #[partValue pl,partValue ph,.none]})
  (el:pl.map (·.1)=l) (eh:ph.map (·.1)=h) (k:K (.str (cut x l h)) σ) {ev es:Expr}:dA B c (subscriptTail ev es v (.ref a)) m σ s (PV B c K) KE:=by
 refine av fun gP gO=>?_;refine ar (jV es v (.ref a)) fun ops ho=>?_;refine aZ rv.inv fun x t z2_ z3_ lx=>?_;subst z2_;subst z3_;refine gO ?_;refine tail_any (B8 s x t) F.slot_str_getitem.lookup (wpAny_getItem_str_slice (⟨_,hs,rfl,rfl⟩:s.heap.IsSlice a pl ph none) rfl ?_) ho;unfold sliceMade;by_cases q:((Option.map (·.1) (none:Option (Int×Tok))).getD 1==1&&(slicePicked x pl ph none).length==x.length)=true
 ·refine er (i7 q) ?_;have q1:=eq_of_beq (d8.mp q).2;have q2:(Builtin.Str.strSliceIndices l h 1 x.cps.toList.length).length=x.cps.toList.length:=by subst el;subst eh;exact q1
  rw[uz] at q2;rw[zu q2] at k;exact⟨σ,S,.refl ..,_,.str x t rfl lx,k⟩
 ·refine er (i3 q) ?_;refine⟨?_,Tri.str S (by show(List.toArray _).toList=_;rw[(qf (x:=x) el eh)]) (b9 (jK x.cps.toList l h) lx) _ _ k⟩;show(List.toArray _).size≤sizeLine;refine er ((qf (x:=x) el eh)) ?_;exact aS (b9 (jK x.cps.toList l h) lx)
theorem yy (hc:c.Ok B) {v:Value} {d:V} {pl ph:Option (Int×Tok)} {l h:Option Int} {a:Addr} {K:Kx} (S:St B c m σ s) (rv:Rv B (Pr σ c.F) s.heap v d) (hs:s.heap.get? a=some {cls:=.type "slice",data:=.fields #[partValue pl,partValue ph,.none]})
  (el:pl.map (·.1)=l) (eh:ph.map (·.1)=h) (k:jm σ d fun xs=>K (.lst (cut xs l h)) σ) {ev es:Expr}:dA B c (subscriptTail ev es v (.ref a)) m σ s (PV B c K) KE:=by
 refine av fun gP gO=>?_;refine ar (jV es v (.ref a)) fun ops ho=>?_;refine aj (gu k) fun xs e1 k=>?_;refine eA (cI S.hr rv e1) fun b vs n z3_ h1 r1 l1=>?_;subst z3_;refine gO ?_;refine tail_any (T:="list") ⟨_,h1,rfl⟩ F.slot_list_getitem.lookup (wpAny_getItem_list_slice (⟨_,h1,rfl,_,rfl⟩) (vl:=partValue pl) (vu:=partValue ph) (vs:=.none) ⟨_,hs,rfl,rfl⟩ (el▸xg pl) (eh▸xg ph) .none (by decide) ?_ (by rw[k9,r1.length];exact aS l1)) ho;rw[CM];exact Tri.newList hc S (GU r1 l h) (b9 (jK _ _ _) l1) k _
theorem wH {dl dh:V} {P:Option Int→Option Int→Prop} (k:match gJ dl,gJ dh with|some l,some h=>P l h|_,_=>False):∃l h,gJ dl=some l∧gJ dh=some h∧P l h:=by
 cases e1:gJ dl with
 |none=>rw[e1] at k;exact k.elim
 |some l=>cases e2:gJ dh with
  |none=>rw[e1,e2] at k;exact k.elim
  |some h=>rw[e1,e2] at k;exact⟨l,h,rfl,rfl,k⟩
def EO (B:Bs) (c:FC) (Sp:Nat→aP) (gv:Nat→List Nat) (x:X) (e:Option Expr):Prop:=match e with
 |some e=>EX B c Sp gv x e
 |none=>x= .absent
theorem Bi {x:X} {e:Option Expr} (h:EO B c Sp gv x e) {K:Kx} (k:vcX Sp gv x m σ K KE) (S:St B c m σ s):Tri B c (valueOrNone (evalOpt e c.env)) m σ s (PV B c K) KE:=by
 induction e with
 |some e=>exact h _ _ _ _ _ k S
 |none=>
  subst h;exact .pure S ⟨_,.none,k⟩
theorem BY (hc:c.Ok B) {v:Value} {d:V} {pl ph:Option (Int×Tok)} {l h:Option Int} {a:Addr} {K:Kx} (S:St B c m σ s) (rv:Rv B (Pr σ c.F) s.heap v d) (hs:s.heap.get? a=some {cls:=.type "slice",data:=.fields #[partValue pl,partValue ph,.none]})
  (el:pl.map (·.1)=l) (eh:ph.map (·.1)=h) (k:Iw d l h σ K) {ev es:Expr}:dA B c (subscriptTail ev es v (.ref a)) m σ s (PV B c K) KE:=by
 cases d<;>try exact yy hc S rv hs el eh k
 exact yx S rv hs el eh k
theorem Dq (hc:c.Ok B) {a lo hi:X} {ea:Expr} {el eh:Option Expr} {p pos:Pos} (ha:EX B c Sp gv a ea) (hl:EO B c Sp gv lo el) (hh:EO B c Sp gv hi eh):EX B c Sp gv (.slice a lo hi) (.Subscript ea (.Slice el eh none p) pos):=by
 intro m σ s K KE h S;rw[ey];refine(ha _ _ _ _ _ h S).bind fun v J M0 M3 M6 q0_=>?_;obtain⟨d,r,k⟩:=q0_;refine Tri.bind (P:=fun i M1 s'=>∃(sl:Addr) (pl ph:Option (Int×Tok)),i= .ref sl∧s'.heap.get? sl=some {cls:=.type "slice",data:=.fields #[partValue pl,partValue ph,.none]}∧Iw d (pl.map (·.1)) (ph.map (·.1)) M1 K∧Rv B (Pr M1 c.F) s'.heap v d) (.hold ?_) ?_
 ·refine(Bi hl k M3).bind fun vl M2 M8 M7 MM q0_=>?_;obtain⟨dl,rl,MP⟩:=q0_;refine(Tri.hold (Bi hh MP M7)).bind fun vh ML N2 MU MT q0_=>?_;obtain⟨dh,rh,N0⟩:=q0_;refine aa (ay (ac ?_));refine av fun gP gO=>?_;refine aZ (wH N0) fun l h e1 e2 Nw=>?_;refine aj (oV (MT.rv hc rl) e1) fun pl z1_ z2_=>?_;subst z1_;subst z2_;refine aj (oV rh e2) fun ph z1_ z2_=>?_;subst z1_;subst z2_;refine gO ?_;refine wpG.any (y5 ?_ (by show 3≤sizeLine+2;rw[H4];decide));exact⟨ML,MU.push hc _ _,(Nq.push c ML N2 {cls:=.type "slice",data:=.fields #[partValue pl,partValue ph,.none]} N2.toks),N2.heap.objs.size,pl,ph,rfl,i2 _ rfl,Nw,(Nq.push c ML N2 {cls:=.type "slice",data:=.fields #[partValue pl,partValue ph,.none]} N2.toks).rv hc (MT.rv hc (MM.rv hc r))⟩
 ·rintro i MQ Np N3 N5 ⟨sl,pl,ph,hi,hs,Nw,On⟩;subst hi;exact .stand (BY hc N3 On hs rfl rfl Nw).up
end
end
structure Ks (B:Bs):Prop where
 get:∀i<3,findIn B.K (.ref (B.ca i)) "__getattribute__"=some (some (.builtin "object.__getattribute__"))
 gattr:∀i<3,findIn B.K (.ref (B.ca i)) "__getattr__"=some none
 sattr:∀i<3,findIn B.K (.ref (B.ca i)) "__setattr__"=some (some (.builtin "object.__setattr__"))
 over:∀i<3,plainOver B.K (B.ca i)=true
 taker:∀i<3,∀f<9,takerIn B.K (B.ca i) (aq f)=some none
 hasDict:∀i<4,hasDictIn B.K (B.ca i)=true
 fld:∀i<4,∀f<9,findIn B.K (.ref (B.ca i)) (aq f)=some none
 eget:findIn B.K (.ref (B.ca 3)) "__getattribute__"=some (some (.builtin "BaseException.__getattribute__"))
 egattr:∃r,findIn B.K (.ref (B.ca 3)) "__getattr__"=some r
 ebase:mroIn B.K (B.ca 3) (.type "BaseException")=some true
 inj:∀i<4,∀j<4,B.ca i=B.ca j→i=j
theorem jd {h:Heap} {d:Addr} {mm:PySem.Str→Option Value} (x:h.Ns d mm) (name:PySem.Str):∃o,h.get? d=some o∧lookIn name o=some (mm name):=by
 refine av fun gP gO=>?_;refine eA x fun o es ep ho hd hk hf=>?_;refine gO ?_;refine⟨o,ho,?_⟩;unfold lookIn;refine er hd ?_;have hf:=hf name;unfold nsFind findBy at hf;rw[←Array.find?_toList] at hf;cases q:es.toList.find? (·.key.isStr name) with
 |some e=>rw[q] at hf;rw[←hf];dsimp only;rw[q];rfl
 |none=>
  rw[q] at hf;rw[←hf];dsimp only;refine er q ?_;have:es.toList.any (·.refKey)=false:=by
   rw[List.any_eq_false];intro e he;refine cu (hk e (by simpa using he)) fun n t hh=>?_;simp[DictEntry.refKey,hh]
  refine er this ?_;rfl
theorem yZ (r:Rv B P h v d) (n:d≠ .unb):handedIn v=true:=by
 cases d with
 |unb=>exact absurd rfl n
 |none|bool|lref|bref=>exact er (show v=_ from r.inv) rfl
 |int=>exact ar r.inv fun _ e=>er e rfl
 |str|bytes=>exact dU r.inv fun _ _ e _=>er e rfl
 |tup|lst=>exact sN r.inv fun _ _ _ e _=>er e rfl
 |obj=>exact dU r.inv fun _ _ e _=>er e rfl
 |fobj=>exact Eh r.inv fun _ _ _ _ _ e _=>er e rfl
 |exc=>exact(r.inv:∃_ _ _ _ _ _,_).elim fun _ r=>Eh r fun _ _ _ _ _ e _=>er e rfl
section
variable {prog:Program} {w:World} {A:Around} {E:Value→Shared→Prop} {K:Frag} {x C:Addr} {ox:Obj} {od:Option Obj} {name:PySem.Str} {expr:Bool} {Q:Value→Shared→Prop}
theorem yc {M:Model} {t:Tok} {Q:Unit→Shared→Prop} (hk:builtinKind "BaseException.__getattribute__"=some .slot) (hs:splitId "BaseException.__getattribute__"=some ("BaseException","__getattribute__"))
  (hi:Looks M s.heap (isInstance (.ref x) (.type "BaseException")) true) (ha:argsOk "BaseException.__getattribute__" ⟨[.ref x,.str name t],[]⟩) (q:Q () s):
  wpAny M A (checkBuiltinCall "BaseException.__getattribute__" ⟨[.ref x,.str name t],[]⟩) Q E s:=by
 have z:= @check_slot M A E s "BaseException.__getattribute__" "BaseException" "__getattribute__" (.ref x) [.str name t] [] Q hk hs hi;have z:=z ha;exact z q
set_option maxHeartbeats 400000 in
theorem Gh {v:Value} (X:K.In s.heap) (I:InstAt s.heap x ox C od) (hga:findIn K (.ref C) "__getattribute__"=some (some (.builtin "BaseException.__getattribute__")))
  (hb:mroIn K C (.type "BaseException")=some true) (hg:∃r,findIn K (.ref C) "__getattr__"=some r) (hf:findObj K C od name=some (.value v)) (hh:handedIn v=true) (h:Q v {s with toks:=s.toks+1}):
  wpAny (model prog w) A (getAttr (.ref x) name expr) Q E s:=by
 obtain⟨hh',g,d,t,os⟩:=s;refine ar hg fun r hg=>?_;have L0:=I.type (M:=model prog w);have L1:=F0 (M:=model prog w) X hga;have L2:=looks_find (M:=model prog w) X I hf;have L3:=F0 (M:=model prog w) X hg;have L4:Looks (model prog w) hh' (isInstance (.ref x) (.type "BaseException")) true:=L0.andThen (looks_mroIn X hb);refine c5 (wpAny_mkText (u9 (c5 (L0.at (c5 (L1.at ?_))))));have e0:(onTheHeap (Value.ref C)&&Value.builtin "BaseException.__getattribute__"==Value.builtin "object.__getattribute__")=false:=by
  have:(Value.builtin "BaseException.__getattribute__"==Value.builtin "object.__getattribute__")=false:=by decide+kernel
  rw[this];rfl
 dsimp only;unfold getAttrByItsOwn hookBefore callGetattribute;have e1:(expr&&onTheHeap (Value.builtin "BaseException.__getattribute__"))=false:=by cases expr<;>rfl
 refine er e1 ?_;refine c5 ?_;refine L3.at ?_;refine c5 (wpAny_attempt (u9 ?_));refine c5 (e6 ?_);refine wpAny_call ?_;refine codeAny_call_builtin (by decide+kernel) F.entry_bexc_ga ?_;have ha:=F.args_bexc_ga (.ref x) (.str name t);have hk:builtinKind "BaseException.__getattribute__"=some .slot:=by decide+kernel
 have hs:splitId "BaseException.__getattribute__"=some ("BaseException","__getattribute__"):=by decide+kernel
 refine yc hk hs L4 ha ?_;refine c5 (e6 (c5 (e6 (c5 (L0.at (c5 (L2.at ?_)))))));refine e6 ?_;show wpAny _ _ (handedOut v) _ _ _;rw[handedOut_of hh];exact e6 h
end
set_option backward.match.sparseCases false in
noncomputable def bg:Expr→Bool
 |.Call _ [] _ _=>false
 |_=>true
set_option tactic.hygienic true in
theorem jM (h:bg o=true):attributeBase o name env t=t:=by
 cases o<;>first|(cases h;done)|rfl|skip
 rename_i f args kws pos
 cases args with
 |nil=>exact noT h
 |cons a r=>cases f<;>rfl
section
variable {α β:Type} {KE:Ke}
theorem St.inK (S:St B c m σ s):B.K.In s.heap:=fun a o e=>S.stays a o (B.inK a o e)
theorem oD {K:Frag}:noGet K none=true:=rfl
theorem xw (hK:Ks B) {f:Nat} {K:Kx} (hf:f<9) (S:St B c m σ s) {C:Nat} {x:Addr} {ox:Obj} {dx:Addr} {mm:PySem.Str→Option Value} {u:Value} {z:V} {expr:Bool} (hC:C<3) (hx:s.heap.get? x=some ox) (hcl:ox.cls= .ref (B.ca C)) (hdx:ox.dict=some dx) (hda:ox.data= .plain) (hn:s.heap.Ns dx mm) (hu:z≠ .unb→mm (aq f)=some u) (ru:Rv B (Pr σ c.F) s.heap u z) (k:nj z fun v=>K v σ):
  dA B c (getAttr (.ref x) (aq f) expr) m σ s (PV B c K) KE:=by
 refine av fun gP gO=>?_;refine am (lH k) fun nz kz=>?_;refine aj (jd hn (aq f)) fun od hod hl=>?_;rw[hu nz] at hl;refine gO ?_;exact get_value S.inK (⟨hx,hcl,by unfold notCls;rw[hda],by rw[hdx];exact hod⟩) (hK.get C hC) (findObj_own (hK.hasDict C (n9 hC)) (hK.fld C (n9 hC) f hf) oD hl) (yZ ru nz) ⟨σ,S.toks _,.toks ..,z,ru,kz⟩
theorem uj (hK:Ks B) {f:Nat} {K:Kx} (hf:f<9) (S:St B c m σ s) {e dx:Addr} {o:Obj} {mm:PySem.Str→Option Value} {i:Int} {t:Tok} {expr:Bool} (hx:s.heap.get? e=some o) (hcl:o.cls= .ref (B.ca 3)) (hdx:o.dict=some dx) (hda:∃vs,o.data= .fields vs) (hn:s.heap.Ns dx mm) (h1:mm (aq f)=some (.int i t)) (k:K (.int i) σ):
  dA B c (getAttr (.ref e) (aq f) expr) m σ s (PV B c K) KE:=by
 refine av fun gP gO=>?_;obtain⟨vs,q⟩:=hda;refine aj (jd hn (aq f)) fun od hod hl=>?_;rw[h1] at hl;refine gO ?_;exact Gh S.inK (⟨hx,hcl,by unfold notCls;rw[q],by rw[hdx];exact hod⟩) hK.eget hK.ebase hK.egattr (findObj_own (hK.hasDict 3 (by decide)) (hK.fld 3 (by decide) f hf) oD hl) rfl ⟨σ,S.toks _,.toks ..,_,.int _ _,k⟩
theorem Hh (hK:Ks B) {v:Value} {d:V} {f:Nat} {K:Kx} (hf:f<9) (S:St B c m σ s) (r:Rv B (Pr σ c.F) s.heap v d) (k:HZ d f σ K) {expr:Bool}:dA B c (getAttr v (aq f) expr) m σ s (PV B c K) KE:=by
 cases d<;>try exact False.elim k
 ·refine av fun gP gO=>?_;refine aj (lM k) fun fs e k=>?_;refine El r.inv fun x o z2_ lt hx hcl hdx hda _=>?_;subst z2_;refine mW (S.hr.ob _ _ e) fun mm vals hn hv hr _=>?_;refine gO ?_;exact xw hK hf S lt hx hcl hdx hda hn.ns (fun nz=>hv f ⟨_,rfl,nz⟩) (hr f) k
 ·obtain⟨x,dx,o,mm,vals,rfl,lt,hx,hcl,hdx,hda,_,_,hn,hv,hr⟩:=r.inv;exact xw hK hf S lt hx hcl hdx hda hn (fun nz=>hv f ⟨_,rfl,nz⟩) (hr f) k
 ·obtain⟨e,dx,o,mm,t,u,rfl,hx,hcl,hdx,hda,_,_,hn,h1,h2⟩:=r.inv
  match f,k with
  |2,k=>exact uj hK hf S hx hcl hdx hda hn h1 k
  |3,k=>exact uj hK hf S hx hcl hdx hda hn h2 k
theorem Gz (hK:Ks B) (hf:f<9) (hb:bg eo=true) (ho:EX B c Sp gv o eo):EX B c Sp gv (.attr o f) (.Attribute eo (aq f) pos):=by
 intro m σ s K KE h S;show Tri B c (attributeBase eo (aq f) c.env (eval eo c.env)>>=fun o=>standAt pos.atName>>=fun _=>holding [o] (getAttr o (aq f) true)>>=fun r=>letTemporaryGo eo o r>>=fun _=>Pure.pure r) m σ s _ KE;refine er (jM hb) ?_;refine(ho _ _ _ _ _ h S).bind fun v J M0 M3 M6 ⟨d,r,k⟩=>.stand ?_;refine(Tri.hold (Hh hK hf M3 r k).up).bind fun u M2 M8 M7 MM p=>?_;exact wpG.any (c5 (wpAny_letTemporaryGo (e6 ⟨M2,M7,.refl ..,p⟩)))
noncomputable def bo:List Expr→Bool
 |[]=>true
 |e::r=>az e&&bo r
theorem iY:∀{es:List Expr},bo es=true→(backTo pos (starEach es env)).any (·.1)=false
 |[],_=>rfl
 |e::r,h=>by
  refine av fun gP gO=>?_;refine am (d8.mp h) fun a b=>?_;refine gO ?_;refine er (bY a) ?_;exact iY (es:=r) b
theorem Tri.args (hc:c.Ok B) {xs:XL} {es:List Expr} (hs:bo es=true) (hx:EXs B c Sp gv xs es) {pos:Pos} {f:Value} {K:List V→Sto→Prop} (h:jj Sp gv xs m σ K KE) (S:St B c m σ s):
  Tri B c (evalArgs f true (backTo pos (starEach es c.env)) []) m σ s (fun a M1 s'=>∃vs ds,a=⟨vs,[]⟩∧Rvs B (Pr M1 c.F) s'.heap vs ds∧K ds M1) KE:=by
 have z:=hx _ _ _ _ _ pos h S
 induction es with
 |nil=>
  refine aa (aJ z (fun vs s' ⟨M1,S',N',ds,r,k⟩=>?_) fun _ _ x=>x);refine aa (ac (ay ?_));exact aa (ac (aa (ac (ac ⟨M1,S',N',vs,ds,rfl,r,k⟩))))
 |cons e r=>
  obtain⟨a,b⟩:=d8.mp hs;rw[bY a] at z⊢;refine aa (aJ z (fun vs s' ⟨M1,S',N',ds,r,k⟩=>?_) fun _ _ x=>x);refine ay ?_;exact aa (ac (aa (ac (ac ⟨M1,S',N',vs,ds,rfl,r,k⟩))))
theorem Nq.kept (c:FC) (σ:Sto) (k:∀b o,s.heap.get? b=some o→h'.get? b=some o) (t:Nat):Nq c σ s σ {s with heap:=h',toks:=t}:=⟨.of_keeps k,fun _ h=>.inl h,⟨rfl,rfl,rfl⟩⟩
theorem HR.kept (H:HR B F σ h) (k:∀b o,h.get? b=some o→h'.get? b=some o):HR B F σ h':=
 ⟨fun a x e=>(H.ob a x e).keep (fun b y p q=>⟨p,k b y q⟩) fun _ q=>k _ _ q,H.priv,H.new⟩
theorem St.kept (hc:c.Ok B) (S:St B c m σ s) (k:∀b o,s.heap.get? b=some o→h'.get? b=some o) (t:Nat):St B c m σ {s with heap:=h',toks:=t}:=S.step hc (Nq.kept c σ k t) (S.hr.kept k)
theorem my (e:bS (d::ds)=some is):∃i js,d= .int i∧bS ds=some js∧is=i::js:=by
 cases d<;>try exact noS e
 refine aj (i8.mp e) fun js e1 e2=>?_;exact⟨_,js,rfl,e1,e2.symm⟩
theorem rB (r:Rvs B P h vs ds) (e:bS ds=some is):IntsAre vs is:=by
 refine r.ind (M:=fun vs ds=>∀is,bS ds=some is→IntsAre vs is) (fun is e=>by cases e;exact .nil) (fun{v vs d ds} a _ ih is e=>?_) is e;refine aZ (my e) fun i js z2_ e1 z4_=>?_;subst z2_;subst z4_;refine ar a.inv fun t z1_=>?_;subst z1_;exact .cons _ _ (ih js e1)
theorem Fk (x:IntsAre vs is):Rvs B P h vs (is.map .int):=by
 induction x with
 |nil=>exact .nil
 |cons n t _ ih=>exact .cons (.int n t) ih
theorem Da:∀{is:List Int},bS ds=some is→is.length=ds.length:=by
 induction ds with
 |nil=>intro is e;cases e;rfl
 |cons d ds ih=>
  intro is e;refine av fun gP gO=>?_;refine aZ (my e) fun i js z2_ e1 z4_=>?_;subst z2_;subst z4_;refine gO ?_;exact congrArg (· +1) (ih e1)
theorem iJ (h:∀i∈is,0≤i∧i<256):(byteArr is).toList.map (·.toNat)=is.map Int.toNat:=by
 unfold byteArr;refine er x9 ?_;apply K5;intro i hi;have:=h i hi;exact Nat.mod_eq_of_lt ((x8 this.1).mpr this.2)
noncomputable def zR:Nat→Value
 |0=>.builtin "len"|1=>.builtin "ord"|2=>.builtin "chr"|3=>.type "bytes"|_=>.builtin "sorted"
theorem AZ (h:n≤ah):(n:Int)<2^63:=K8 (n8.mpr h) (by decide)
theorem JI {v:Value} {d:V} {K:Kx} (S:St B c m σ s) (r:Rv B (Pr σ c.F) s.heap v d) (h:jm σ d fun xs=>K (.int xs.length) σ):dA B c (call (.builtin "len") [v]) m σ s (PV B c K) KE:=by
 refine av fun gP gO=>?_;refine aj (gu h) fun xs e h=>?_;refine eA (cI S.hr r e) fun a vs n z3_ h1 r1 l1=>?_;subst z3_;have e:vs.toArray.size=xs.length:=r1.length;refine gO ?_;exact len_list (l:=a) (items:=vs.toArray) ⟨_,h1,rfl,n,rfl⟩ (e▸(AZ l1)) (e▸(Tri.int S _ _ h))
theorem DO (hc:c.Ok B) (hh:c.hd=true) {v:Value} {d:V} {K:Kx} (S:St B c m σ s) (r:Rv B (Pr σ c.F) s.heap v d) (h:lY σ d fun is=>(∀i∈is,0≤i∧i<256)∧K (.bytes (is.map Int.toNat)) σ):dA B c (call (.type "bytes") [v]) m σ s (PV B c K) KE:=by
 refine av fun gP gO=>?_;refine aZ (ql h) fun xs is e1 e2 h=>?_;refine eA (cI S.hr r e1) fun a vs n z3_ h1 r1 l1=>?_;subst z3_;refine gO ?_;exact call_bytes_ints (l:=a) ⟨_,h1,rfl,n,rfl⟩ (rB r1 e2) (fun n hn=>h.1 n hn) (by rw[r1.length];exact aS l1) (hc.handled hh) fun h' t k hk'=>
  ⟨σ,S.kept hc hk' _,.kept c σ hk' _,_,.bytes _ t (iJ h.1),h.2⟩
theorem yv (hc:c.Ok B) {v:Value} {d:V} {K:Kx} (S:St B c m σ s) (r:Rv B (Pr σ c.F) s.heap v d) (h:lY σ d fun is=>is.length<64∧∀js:List Int,js.Perm is→js.Pairwise (· ≤ ·)→K (.lst (js.map .int)) σ):dA B c (call (.builtin "sorted") [v]) m σ s (PV B c K) KE:=by
 refine av fun gP gO=>?_;refine aZ (ql h) fun xs is e1 e2 h=>?_;refine eA (cI S.hr r e1) fun a vs n z3_ h1 r1 l1=>?_;subst z3_;have hn:vs.length<64:=by rw[r1.length,←Da e2];exact h.1
 refine gO ?_;refine sorted_ints (l:=a) ⟨_,h1,rfl,n,rfl⟩ (rB r1 e2) hn fun out ns' a1 a2 a3=>?_;refine ar (sortedAll_at s.heap vs out) fun e he=>?_;have hd:s.heap.get? (s.heap.objs.size+1)=none:=by
  cases q:s.heap.get? (s.heap.objs.size+1) with
  |none=>rfl
  |some o=>exact absurd (Nat.lt_of_succ_lt (o6 q)) (H7 _)
 exact⟨σ,S.kept hc (fun _ _=>sortedAll_old) _,.kept c σ (fun _ _=>sortedAll_old) _,_,.lst he ⟨S.hr.dead hd,(fun z=>bJ (S.fal _ z).1 hd)⟩ (Fk a1) (by rw[f7,a2.length_eq];exact(b9 (B2 h.1) (by decide))),h.2 _ a2 a3⟩
end
section
variable {prog:Program} {w:World} {A:Around} {E:Value→Shared→Prop} {R:Result→Shared→Prop}
theorem bZ {id:String} {args:Args} {b:Builtin} (hd:Builtin.Bytes.decodersThatHold.contains id=false) (hb:entryFor table id=some b)
  (h:wpG (model prog w) (A.under (.builtin id args)) (b args)
   (fun fin s'=>match fin with|.done f=>R (.ok f) s'|.again c'=>c'.quiet=true∧bC (model prog w) A c' R s') (fun e s'=>R (.error e) s') s):
  bC (model prog w) A (.builtin id args) R s:=by
 refine aI hd ?_;show wpG _ _ (match entryFor table id with|some b=>b args|none=>unsupported ((withoutEnding? id "#data").getD id)) _ _ s;rw[hb];exact h
theorem ct {id:String} {args:Args} {b:Builtin} (hq:plainId id=true) (hd:Builtin.Bytes.decodersThatHold.contains id=false) (hb:entryFor table id=some b)
  (hc:∀{Q:Unit→Shared→Prop} {E:Value→Shared→Prop},Q () s→wpAny (model prog w) A.in1 (checkBuiltinCall id args) Q E s)
  (h:wpG (model prog w) A.in1 (b args)
   (fun fin s'=>match fin with|.done f=>R (.ok f) s'|.again c'=>c'.quiet=true∧bC (model prog w) A c' R s') (fun e s'=>R (.error e) s') s):
  bC (model prog w) A (.call (.builtin id) args) R s:=by
 refine aI rfl ?_;refine aa (wpG.any (hc ?_));refine ac ⟨D8 hq _,bZ hd hb ?_⟩;rw[Around.under_plainId hq];exact h
theorem dn {c:Prop} {d:Decidable c} {α:Type} {t:c→α} {e:¬c→α} {v:α} (h:¬c) (z:e h=v): @dite α c d t e=v:=(dif_neg h).trans z
set_option tactic.hygienic true in
theorem kK {M:Model} {a:Addr} {Q:Bool→Shared→Prop} (hg:A.guards=some []) (h:Q false s):wpG M A (Builtin.Bytes.exported (.ref a)) Q E s:=by
 refine aa (yb fun st hst hdec=>ac ?_);have hst:=hst [] hg;have ng:∀x∈st,x.1.isGuard=false:=by
  intro x hx;cases q:x.1.isGuard with
  |false=>rfl
  |true=>
   have:x.1∈guardsOf st:=E8.mpr ⟨r6 hx,q⟩;rw[hst] at this;exact nomatch this
 have e:∀f:Code×Pos→Bool,(∀x∈st,f x=false)→st.any f=false:=fun f hf=>by
  rw[List.any_eq_false];intro x hx;rw[hf x hx];exact F3
 have key:∀b,b=false→Q b s:=fun b hb=>hb▸h;refine key _ (e _ fun x hx=>?_);have h1:=ng x hx;have h2:=hdec x hx;obtain⟨c,p⟩:=x;cases c<;>try exact rfl
 rename_i id args
 have n {k:String} (z:guardIds.contains k=true):¬id=k:=fun q=>by
  subst q;exact F3 (h1.symm.trans z)
 obtain⟨pos,kw⟩:=args
 delta Builtin.Bytes.exported.match_1
 refine dn (n (k:="bytearray.__contains__") (by decide+kernel)) ?_;refine dn (n (k:="bytearray.__mod__") (by decide+kernel)) ?_;refine dn (n (k:="bytearray.__rmod__") (by decide+kernel)) ?_;refine dn (n (k:="_struct.pack_into.held") (by decide+kernel)) ?_;refine dn (n (k:="bytearray.find.held") (by decide+kernel)) ?_
 induction pos with
 |nil=>exact rfl
 |cons v r=>exact(congrArg (_&& ·) h2).trans (v4 _)
noncomputable abbrev cE (b:Array UInt8):Obj:={cls:=.type "bytearray",data:=.bytearray b 0}
theorem hJ (hg:A.guards=some []) (ho:s.heap.get? a=some (cE b)) (h:Q () s):wpG M A (Builtin.Bytes.checkResize (.ref a)) Q E s:=by
 refine aa (aa (kK hg ?_));refine aa (wpG.any ?_);refine c5 (D2 ho ?_);exact e6 (ac (ac h))
theorem dR (ho:s.heap.get? a=some (cE b)) (hz:(f b).size≤sizeLine) (h:Q () {s with heap:=s.heap.update a (Obj.mapBytearray f)}):
  wpAny M A (Builtin.Bytes.write (.ref a) f) Q E s:=by
 show wpAny _ _ (updateBytearray a f) _ _ _;refine c5 (D2 ho ?_);refine c5 (wpAny_update ho ?_);refine I0 (C8 (Obj.mapBytearray f) ho rfl) ?_ h;show(if (f b).size>sizeLine then some "bytearray:memory" else none)=none;exact er (i3 (by lia)) rfl
theorem oW {h:Heap} {a:Addr} {b:Array UInt8} (f:Array UInt8→Array UInt8) (ho:h.get? a=some (cE b)):(h.update a (Obj.mapBytearray f)).get? a=some (cE (f b)):=C8 (Obj.mapBytearray f) ho rfl
end
namespace BF
theorem gr:isSubtype (.type "bytearray") (.type "bytearray")=pure true:=by rw[isSubtype_type];kernel_rfl
theorem iH:Slot "bytearray" "append" "bytearray.append":=
 .of (owner:="bytearray") (n:="append") (by rw[t9,m6];kernel_rfl) (by decide+kernel) (by decide+kernel) (by decide+kernel)
  (by first|exact .inl (by decide+kernel)|exact .inr (by decide+kernel)) gr
theorem eH:Slot "bytearray" "extend" "bytearray.extend":=
 .of (owner:="bytearray") (n:="extend") (by rw[t9,m6];kernel_rfl) (by decide+kernel) (by decide+kernel) (by decide+kernel)
  (by first|exact .inl (by decide+kernel)|exact .inr (by decide+kernel)) gr
theorem sD:entryFor table "bytearray.append"=some Builtin.«bytearray.append»:=by first|exact D3 (by kernel_rfl)|exact D4 (by kernel_rfl)
theorem kN:entryFor table "bytearray.extend"=some Builtin.«bytearray.extend»:=by first|exact D3 (by kernel_rfl)|exact D4 (by kernel_rfl)
theorem oR:entryFor table "bytearray.extend.loop"=some Builtin.«bytearray.extend.loop»:=by first|exact D3 (by kernel_rfl)|exact D4 (by kernel_rfl)
theorem zm:entryFor table "bytearray.extend.end"=some Builtin.«bytearray.extend.end»:=by first|exact D3 (by kernel_rfl)|exact D4 (by kernel_rfl)
theorem uO (a b:Value):argsOk "bytearray.append" ⟨[a,b],[]⟩:=by unfold argsOk;kernel_rfl
theorem mx (a b:Value):argsOk "bytearray.extend" ⟨[a,b],[]⟩:=by unfold argsOk;kernel_rfl
theorem ux:typeOf (.builtin "bytearray.append")=pure (.type "method_descriptor"):=by kernel_rfl
theorem uw:typeOf (.builtin "bytearray.extend")=pure (.type "method_descriptor"):=by kernel_rfl
theorem vY:PlainAttrs "bytearray":=
 ⟨⟨"bytearray.__getattribute__",by rw[t9,m6];kernel_rfl,by decide+kernel⟩,by rw[t9,m6];kernel_rfl⟩
end BF
section
variable {prog:Program} {w:World} {A:Around} {E:Value→Shared→Prop}
theorem tH (h0:0≤i) (h1:i<256) (h:Q i.toNat.toUInt8 s):wpAny M A (Builtin.Bytes.byteValue (.int i t)) Q E s:=by
 refine c5 (A9 (rfl:asIndex (.int i t)=pure i) ?_);refine er (i3 fun z=>(l8.mp z).elim (fun z=>r8.mpr h0 (c8 z)) fun z=>I7.mpr h1 (c8 z)) ?_;exact e6 h
theorem mG {a:Addr} {b:Array UInt8} {i:Int} {t:Tok} {Q:Value→Shared→Prop} (hg:A.guards=some []) (ho:s.heap.get? a=some (cE b)) (hz:b.size+1≤sizeLine) (h0:0≤i) (h1:i<256)
  (h:Q .none {s with heap:=s.heap.update a (Obj.mapBytearray (·.push i.toNat.toUInt8))}):wpG (model prog w) A (call (.builtin "bytearray.append") [.ref a,.int i t]) Q E s:=by
 refine bW (ct (BF.iH.plain) (by decide+kernel) BF.sD (fun q=>BF.iH.check _ _ _ _ _ _ _ _ ⟨_,ho,rfl⟩ (BF.uO _ _) q) ?_);refine aa (ac (aa (wpG.any (tH h0 h1 ?_))));refine aa (hJ hg ho ?_);refine aa (wpG.any (dR ho (by rw[Array.size_push];exact hz) ?_));exact ac h
theorem wK (ho:s.heap.get? a=some (cE b)) (h:Q true s):wpAny M A (isInstance (.ref a) (.type "bytearray")) Q E s:=wpAny_isInstance (T:="bytearray") ⟨_,ho,rfl⟩ BF.gr h
theorem kL {a:Addr} {b c:Array UInt8} {Q:Fin→Shared→Prop} (hg:A.guards=some []) (ho:s.heap.get? a=some (cE b)) (hz:b.size+c.size≤sizeLine)
  (h:Q (.done (.ret .none)) {s with heap:=s.heap.update a (Obj.mapBytearray (· ++c))}):
  wpG (model prog w) A (if (!c.isEmpty)=true then(Builtin.Bytes.checkResize (.ref a)>>=fun _=>Builtin.Bytes.write (.ref a) (· ++c)>>=fun _=>ret .none) else(Builtin.Bytes.write (.ref a) (· ++c)>>=fun _=>ret .none)) Q E s:=by
 have fin:wpG (model prog w) A (Builtin.Bytes.write (.ref a) (· ++c)>>=fun _=>ret .none) Q E s:=aa (wpG.any (dR ho (by rw[Array.size_append];exact hz) (ac h)))
 split
 ·exact aa (hJ hg ho fin)
 ·exact fin
theorem jH (ho:s.heap.get? a=some (cE b)) (h:Q b s):wpAny M A (Builtin.Bytes.payload (.ref a)) Q E s:=by
 refine c5 (c5 (D2 ho ?_));exact e6 (e6 h)
theorem EN {id:String} {c:Array UInt8} {t:Tok}:Builtin.Bytes.takeBufferQuiet? id (.bytes c t) 0=pure (some (c,none)):=by
 unfold Builtin.Bytes.takeBufferQuiet? Builtin.Bytes.takeBuffer?;refine er (KBy.special_eq KBy.look_buffer) (er KBy.own_buffer ?_);have e:((0:Int)==Builtin.Bytes.fullReadOnly)=false:=by decide+kernel
 refine er e (er KBy.buffer_eq ?_);rfl
theorem mF {a:Addr} {b c:Array UInt8} {t:Tok} {Q:Value→Shared→Prop} (hg:A.guards=some []) (ho:s.heap.get? a=some (cE b)) (hz:b.size+c.size≤sizeLine)
  (h:Q .none {s with heap:=s.heap.update a (Obj.mapBytearray (· ++c))}):wpG (model prog w) A (call (.builtin "bytearray.extend") [.ref a,.bytes c t]) Q E s:=by
 refine bW (ct (BF.eH.plain) (by decide+kernel) BF.kN (fun q=>BF.eH.check _ _ _ _ _ _ _ _ ⟨_,ho,rfl⟩ (BF.mx _ _) q) ?_);refine aa (ac ?_);refine aa (ac ?_);refine aa (nO ?_);refine aa (wpG.any (jH ho ?_));refine er EN ?_;refine aa (ac ?_);exact kL hg ho hz h
end
namespace BF
theorem oC:plainId "bytearray.extend.loop"=true:=by decide+kernel
theorem yK:plainId "bytearray.extend.end"=true:=by decide+kernel
theorem iI:typeLookup (.type "bytearray") "__buffer__"=pure (some (.builtin "bytearray.__buffer__")):=by rw[t9,m6];kernel_rfl
theorem kM:typeLookup (.type "bytearray") "__release_buffer__"=pure (some (.builtin "bytearray.__release_buffer__")):=by rw[t9,m6];kernel_rfl
theorem wg:typeLookup (.type "bytearray") "__bytes__"=pure none:=by rw[t9,m6];kernel_rfl
theorem wf:typeLookup (.type "bytearray") "__index__"=pure none:=by rw[t9,m6];kernel_rfl
end BF
section
variable {prog:Program} {w:World} {A:Around} {E:Value→Shared→Prop}
theorem DS {R:Result→Shared→Prop} {a l I S:Addr} {vs:List Value} {ns:List Int} {b:Array UInt8} (hg:A.guards=some []) (hh:A.handled=none) (hi:IntsAre vs ns) (hr:∀n∈ns,0≤n∧n<256) (hz:b.size+ns.length≤sizeLine)
  (hIS:I≠S) (hlI:l≠I) (hlS:l≠S) (haI:a≠I) (haS:a≠S):
  ∀(k i:Nat) (s:Shared),ns.length - i=k→i≤ns.length→s.heap.IsList l vs.toArray→s.heap.IsListIter I l i→s.heap.get? S=some (cE (byteArr (ns.take i)))→s.heap.get? a=some (cE b)→
   (∀(h':Heap) (k':Nat),(∀x o,x≠I→x≠S→s.heap.get? x=some o→h'.get? x=some o)→h'.get? a=some (cE b)→R (.ok (.ret .none)) {s with heap:=h'.update a (Obj.mapBytearray (· ++byteArr ns)),toks:=k'})→
   bC (model prog w) A (.builtin "bytearray.extend.loop" ⟨[.ref a,.ref l,.ref I,.ref S],[]⟩) R s:=by
 have hlen:vs.length=ns.length:=hi.length;intro k
 induction k with
 |zero=>
  intro i s hk hle hl hit hS ha hR;have hin:i=ns.length:=Nat.le_antisymm hle (Nat.sub_eq_zero_iff_le.mp hk);subst hin;refine bZ (by decide+kernel) BF.oR ?_;refine aa (wpG.any (wpAny_pyNext_list_end hh hit hl (by simp[hlen]) fun h' he=>?_));have hS':h'.get? S=some (cE (byteArr (ns.take ns.length))):=he S _ (v8 hIS) hS;have ha':h'.get? a=some (cE b):=he a _ haI ha;refine ac ⟨D8 BF.yK _,bZ (by decide+kernel) BF.zm ?_⟩;refine aa (lq ?_);refine aa (wpG.any (jH hS' ?_));refine er List.take_length ?_;exact kL (s:={s with heap:=h'}) hg ha' (by rw[byteArr_size];exact hz) (hR h' s.toks (fun x o h1 _ e=>he x o h1 e) ha')
 |succ k ih=>
  intro i s hk hle hl hit hS ha hR;refine av fun gP gO=>?_;have hlt:i<ns.length:=Nat.lt_of_sub_eq_succ hk;have hv:i<vs.length:=by rw[hlen];exact hlt
  obtain⟨x,hx⟩:∃x,vs[i]?=some x:=⟨vs[i],g7 hv⟩;refine dU (IntsAre.at hi i x hx) fun n t z2_ hn=>?_;subst z2_;refine am (hr n (v5 hn)) fun h0 h1=>?_;refine gO ?_;refine bZ (by decide+kernel) BF.oR ?_;refine aa (wpG.any (wpAny_pyNext_list_item (x:=.int n t) hit hl (by simpa using hx) fun h' hit' hs=>?_));have hS':h'.get? S=some (cE (byteArr (ns.take i))):=(hs.2 S (v8 hIS)).trans hS;have ha':h'.get? a=some (cE b):=(hs.2 a haI).trans ha;refine aa (kJ (ay (wpG.any (tH h0 h1 ?_))));refine aa (wpG.any (wpAny_letGo ?_));refine aa (wpG.any (dR hS' (by rw[Array.size_push,byteArr_size,List.length_take];exact b9 (i9 (Nat.min_le_left ..)) (b9 hlt (b9 (m7 ..) hz))) ?_));have Oj:(h'.update S (Obj.mapBytearray (·.push n.toNat.toUInt8))).get? S=some (cE (byteArr (ns.take (i+1)))):=by
   rw[byteArr_take hn];exact oW _ hS'
  have Oh:(h'.update S (Obj.mapBytearray (·.push n.toNat.toUInt8))).get? a=some (cE b):=(r4 _ _ (v8 haS)).trans ha';refine ac ⟨D8 BF.oC _,ih (i+1) {s with heap:=h'.update S (Obj.mapBytearray (·.push n.toNat.toUInt8))} (by rw[Nat.sub_add_eq,hk];rfl) hlt ?_ ?_ Oj Oh fun h3 k' hk3 ha3=>?_⟩
  ·exact(hl.extBut hs.extBut hlI).extBut (B5 ..).extBut hlS
  ·exact hit'.extBut (B5 ..).extBut hIS
  ·exact hR h3 k' (fun x o hxI hxS e=>hk3 x o hxI hxS ((r4 _ _ (v8 hxS)).trans (hs.extBut x o hxI e))) ha3
theorem lU {a l:Addr} {b:Array UInt8} {vs:List Value} {ns:List Int} {Q:Value→Shared→Prop} (hg:A.guards=some []) (hh:A.handled=none) (ho:s.heap.get? a=some (cE b)) (hl:s.heap.IsList l vs.toArray) (hi:IntsAre vs ns)
  (hr:∀n∈ns,0≤n∧n<256) (hz:b.size+ns.length≤sizeLine)
  (h:∀(h':Heap) (k':Nat),(∀x o,s.heap.get? x=some o→h'.get? x=some o)→Q .none {s with heap:=h'.update a (Obj.mapBytearray (· ++byteArr ns)),toks:=k'}):wpG (model prog w) A (call (.builtin "bytearray.extend") [.ref a,.ref l]) Q E s:=by
 refine bW (ct (BF.eH.plain) (by decide+kernel) BF.kN (fun q=>BF.eH.check _ _ _ _ _ _ _ _ ⟨_,ho,rfl⟩ (BF.mx _ _) q) ?_);refine av fun gP gO=>?_;have hT:s.TypeIs (.ref l) "list":=hl.typeIs;obtain⟨ol,hol,hoc,nl,hod⟩:=id hl;refine gO ?_;refine aa (ac ?_);refine aa (wpG.any (y0 hT F.bm_no_buffer ?_));refine aa (kJ (wpG.any (wpAny_pyIter_list hl ?_)));have NR:(s.heap.push {cls:=.type "list_iterator",data:=.fields #[.ref l,.int 0 0]}).IsList l vs.toArray:=hl.push _;have NS:({s with heap:=s.heap.push {cls:=.type "list_iterator",data:=.fields #[.ref l,.int 0 0]}}:Shared).TypeIs (.ref l) "list":=Heap.IsList.typeIs (s:={s with heap:=s.heap.push {cls:=.type "list_iterator",data:=.fields #[.ref l,.int 0 0]}}) NR;refine aa (ay (wpG.any ?_));refine c5 (y0 NS slot_list_len.lookup ?_);refine c5 (wpAny_isInstance NS F.bm_sub_list ?_);refine E3 rfl ?_;refine bm_if_true (by decide+kernel) ?_;refine e6 ?_;refine aa (wpG.any ?_);refine y5 ?_ (g6 _);have hI:((s.heap.push {cls:=.type "list_iterator",data:=.fields #[.ref l,.int 0 0]}).push {cls:=.type "bytearray",data:=.bytearray #[]}).IsListIter s.heap.objs.size l 0:=
  ⟨_,f5 _ (i2 _ rfl),rfl,rfl⟩
 have hlt:l<s.heap.objs.size:=o6 hol;have hat:a<s.heap.objs.size:=o6 ho;have hsz:(s.heap.push {cls:=.type "list_iterator",data:=.fields #[.ref l,.int 0 0]}).objs.size=s.heap.objs.size+1:=Heap.size_push _ _;have Of:((s.heap.push {cls:=.type "list_iterator",data:=.fields #[.ref l,.int 0 0]}).push {cls:=.type "bytearray",data:=.bytearray #[]}).get? a=some (cE b):=f5 _ (f5 _ ho);refine ac ⟨D8 BF.oC _,?_⟩;refine DS (I:=s.heap.objs.size) (S:=(s.heap.push {cls:=.type "list_iterator",data:=.fields #[.ref l,.int 0 0]}).objs.size) (b:=b) hg hh hi hr hz (by rw[hsz];exact s9 (r5 _)) (s9 hlt)
  (by rw[hsz];exact s9 (n9 hlt)) (s9 hat) (by rw[hsz];exact s9 (n9 hat)) ns.length 0 _ rfl (g6 _) (NR.push _) hI (i2 _ rfl) Of fun h' k' hk ha=>?_
 exact h h' k' fun x o e=>hk x o (s9 (o6 e)) (by rw[hsz];exact s9 (n9 (o6 e))) (f5 _ (f5 _ e))
namespace BF
theorem ve {M:Model} {a:Addr} {b:Array UInt8} (ho:s.heap.get? a=some (cE b)) (name:String) (id:String) (hl:typeLookup (.type "bytearray") (name:PySem.Str)=pure (some (.builtin id)))
  (he:(!id.endsWith ("."++name))=false) (hd:id.dropRight (name.length+1)="bytearray") {Q:Bool→Shared→Prop} (h:Q true s):wpAny M A (Builtin.Bytes.slotIsOwn (.ref a) name) Q E s:=by
 refine c5 (y0 (T:="bytearray") ⟨_,ho,rfl⟩ hl ?_);dsimp only;refine er he ?_;refine er hd ?_;exact wpAny_isInstance (T:="bytearray") ⟨_,ho,rfl⟩ gr h
theorem zB {M:Model} {a:Addr} {b:Array UInt8} {id:String} {full:Bool} (ho:s.heap.get? a=some (cE b)) {Q:Option (Array UInt8)→Shared→Prop} (h:Q (some b) s):wpAny M A (Builtin.Bytes.buffer? id (.ref a) full) Q E s:=by
 refine c5 (y0 (T:="bytearray") ⟨_,ho,rfl⟩ iI ?_);refine c5 (ve ho "__buffer__" "bytearray.__buffer__" iI (by decide+kernel) (by decide+kernel) ?_);refine E3 rfl ?_;refine c5 (y0 (T:="bytearray") ⟨_,ho,rfl⟩ iI ?_);refine c5 (c5 (ve ho "__release_buffer__" "bytearray.__release_buffer__" kM (by decide+kernel) (by decide+kernel) ?_));refine e6 ?_;refine E3 rfl ?_;exact c5 (jH ho (e6 h))
end BF
theorem pj {a:Addr} {b:Array UInt8} {Q:Value→Shared→Prop} (ho:s.heap.get? a=some (cE b)) (hz:b.size≤sizeLine) (hQ:Q (.bytes b s.toks) {s with toks:=s.toks+1}):
  codeAny (model prog w) A (.call (.builtin "bytes.__new__") ⟨[.type "bytes",.ref a],[]⟩) (wants Q E) s:=by
 refine codeAny_of_tree ?_;refine c5 (A9 (F.bm_newCall _) (e6 ⟨D8 F.bm_plain _,codeAny_builtin F.bm_entry ?_⟩));refine c5 (A9 (a:=true) rfl ?_);refine E3 rfl ?_;refine c5 (A9 F.bm_sub ?_);refine E3 rfl ?_;refine c5 (A9 (F.bm_bind _) ?_);refine c5 (A9 (a:=()) rfl ?_);refine c5 (A9 (a:=()) rfl ?_);refine E3 rfl ?_;refine c5 (y0 (⟨_,ho,rfl⟩) BF.wg ?_);refine c5 (c5 ?_);refine c5 (D2 ho ?_);refine e6 (e6 ?_);refine E3 rfl ?_;refine c5 (y0 (⟨_,ho,rfl⟩) BF.wf ?_);refine bm_if_true rfl ?_
 first
  |show wpAny _ _ (Builtin.Bytes.buffer? "bytes.__new__" (.ref a) true>>=_) _ _ _
  |(refine c5 ?_;show wpAny _ _ (Builtin.Bytes.buffer? "bytes.__new__" (.ref a) true>>=_) _ _ _)
 refine c5 (BF.zB ho ?_);refine c5 (wpAny_rule (c5 (wpAny_mkBytes ?_ hz)));refine bm_if_true (by decide) ?_
 first
  |exact e6 hQ
  |exact c5 (e6 (e6 hQ))
theorem pk (ho:s.heap.get? a=some (cE b)) (hz:b.size≤sizeLine) (hQ:Q (.bytes b s.toks) {s with toks:=s.toks+1}):wpAny (model prog w) A (call (.type "bytes") [.ref a]) Q E s:=by
 refine callType_codes (Q₁:=fun obj M0=>M0.TypeIs obj "bytes"∧Q obj M0) F.bm_called (F.bm_typeCall _) F.entry_object_init
  (pj ho hz ⟨PySem.W.typeIs_bytes _ _ _,hQ⟩) fun obj M0 MO=>?_
 exact⟨MO.1,F.args_object_init_2 obj _,object_init_meets F.bm_called.init.lookup F.bm_called.made (by decide) prog w A.in1 _ M0 ⟨MO.1,rfl,MO.2⟩⟩
theorem bp {α:Type} {M:Model} {c:Bool} {a b:Sem α} {Q:α→Shared→Prop} (hc:c=false) (h:wpG M A b Q E s):wpG M A (if c=true then a else b) Q E s:=by
 subst hc;exact h
theorem ci {α:Type} {M:Model} {t:Sem α} {a:α} {Q:α→Shared→Prop} (e:t=pure a) (h:Q a s):wpG M A t Q E s:=by rw[e];exact ac h
namespace BF
theorem mro:mroOf (.type "bytearray")=pure [.type "bytearray",.type "object"]:=by rw[mroOf_type];kernel_rfl
theorem we:typeLookup (.type "bytearray") "__new__"=pure (some (.builtin "bytearray.__new__")):=by rw[t9,m6];kernel_rfl
theorem ja:Slot "bytearray" "__init__" "bytearray.__init__":=
 .of (owner:="bytearray") (n:="__init__") (by rw[t9,m6];kernel_rfl) (by decide+kernel) (by decide+kernel) (by decide+kernel)
  (by first|exact .inl (by decide+kernel)|exact .inr (by decide+kernel)) gr
theorem Bp:TypeCalled "bytearray" "bytearray.__new__" "bytearray.__init__":=
 ⟨by decide+kernel,by decide+kernel,⟨_,_,mro⟩,madeBy_type mro we (by decide+kernel),by decide+kernel,by rw[isSubtype_type];kernel_rfl,ja⟩
theorem BO:checkTypeCall "bytearray" ⟨[],[]⟩=pure ():=by kernel_rfl
theorem FL:checkBuiltinCall "bytearray.__new__" ⟨[.type "bytearray"],[]⟩=pure ():=by kernel_rfl
theorem zl:entryFor table "bytearray.__new__"=some Builtin.«list.__new__»:=entryFor_alias (id':="list.__new__") (by kernel_rfl) (by first|rfl|decide+kernel) (by decide+kernel) (by kernel_rfl)
theorem yJ:plainId "bytearray.__new__"=true:=by decide+kernel
theorem ww:entryFor table "bytearray.__init__"=some Builtin.«bytearray.__init__»:=by first|exact D3 (by kernel_rfl)|exact D4 (by kernel_rfl)
theorem zH (a:Value):argsOk "bytearray.__init__" ⟨[a],[]⟩:=by unfold argsOk;kernel_rfl
set_option maxRecDepth 1000000 in
set_option maxHeartbeats 4000000 in
theorem yP:("bytearray.__new__".splitOn ".__new__").headD ""="bytearray":=by simp +decide [String.splitOn,String.splitOnAux]
theorem Mw:Builtin.Bytes.bindOptional "bytearray.__init__" "bytearray" ["source","encoding","errors"] [] []=pure [none,none,none]:=by kernel_rfl
theorem DJ {Q₁:Value→Shared→Prop} (h:Q₁ (.ref s.heap.objs.size) {s with heap:=s.heap.push (cE #[])}):
  codeAny (model prog w) A (.call (.builtin "bytearray.__new__") ⟨[.type "bytearray"],[]⟩) (wants Q₁ E) s:=by
 refine codeAny_of_tree ?_;refine c5 (A9 FL (e6 ⟨D8 yJ _,codeAny_builtin_stack zl rfl fun p st=>?_⟩));have hsub:=gr;simp only[yP]
 wp_walk
 exact h
end BF
theorem iN {M:Model} {self:Value} {T:String} {name:PySem.Str} {id:String} {args:List Value} {kw:List (PySem.Str×Value)}
  {Q:Option Value→Shared→Prop} (hT:s.TypeIs self T) (h:Slot T name id)
  (hc:wpG M A (call (.builtin id) (self::args) kw) (fun v=>Q (some v)) E s):wpG M A (callSpecial? self name args kw) Q E s:=by
 refine aa (wpG.any (y0 hT h.lookup ?_));simp only[h.bind];exact ay (aa (ac (aa (aJ hc (fun v s' h'=>ac h') fun _ _ h'=>h'))))
theorem sF {Q:Value→Shared→Prop} (hg:A.guards=some []) (h:Q (.ref s.heap.objs.size) {s with heap:=(s.heap.push (cE #[])).update s.heap.objs.size (Obj.mapBytearray fun _=> #[])}):wpG (model prog w) A (call (.type "bytearray") []) Q E s:=by
 refine bW (aI rfl ?_);refine ac ⟨F4 _ (by decide+kernel),bZ (by decide+kernel) F.entry_type_call ?_⟩;unfold Builtin.«type.__call__»;refine bp (by decide+kernel) ?_;refine bp BF.Bp.canCreate ?_;refine aa (ci BF.BO ?_);refine aa (ci BF.mro ?_);refine bp rfl ?_;refine aa (ci BF.Bp.made ?_);refine aa (ac (aa (ay (bW (bF (bC.any (BF.DJ (E:=fun _ _=>False) (Q₁:=fun v M0=>v= .ref s.heap.objs.size∧M0={s with heap:=s.heap.push (cE #[])}) ⟨rfl,rfl⟩)) fun r M0 hr=>?_)))));rcases r with e|(v|_|_|_)<;>first|exact hr.elim|skip
 obtain⟨rfl,rfl⟩:=hr;have ho:(s.heap.push (cE #[])).get? s.heap.objs.size=some (cE #[]):=i2 _ rfl;refine aa (wpG.any (wK ho ?_));refine bp rfl ?_;refine aa (ay ?_);refine iN (T:="bytearray") ⟨_,ho,rfl⟩ BF.ja ?_;refine bW (ct BF.ja.plain (by decide+kernel) BF.ww (fun q=>BF.ja.check _ _ _ _ _ _ _ _ ⟨_,ho,rfl⟩ (BF.zH _) q) ?_);refine aa (wpG.any ?_);refine c5 (BF.ve ho "__release_buffer__" "bytearray.__release_buffer__" BF.kM (by decide+kernel) (by decide+kernel) ?_);refine e6 ?_;refine bp rfl ?_;refine aa (ci BF.Mw ?_);refine aa (ci (a:=()) rfl ?_);refine aa (ci (a:=()) rfl ?_);refine aa (aa (kK hg ?_));refine aa (wpG.any ?_);refine c5 (D2 ho ?_);refine e6 (ac ?_);refine bp rfl ?_;refine aa (wpG.any (dR ho (g6 _) ?_));refine aa (bp rfl (bp rfl (ac ?_)));refine ac ?_;exact bp (by decide) (ac h)
end
theorem tb {α:Type} {M:Model} {A:Around} {E:Value→Shared→Prop} {s:Shared} {vs:List Value} {m:Sem α} {Q:α→Shared→Prop} (h:wpG M A m Q E s):wpG M A (m.keep vs) Q E s:=
 fun Γ p N4 hc=>by rw[Sem.wp_keep];exact h Γ p N4 hc
def qB (M:Model) (h:Heap) (f:Value):Prop:=∃k,(k=Keeper.frame∨k=Keeper.machine∨k=Keeper.boundFrame)∧Looks M h (keeperOf f) k
theorem qB.b (id:String):qB M h (.builtin id):=⟨.machine,.inr (.inl rfl),Looks.of_pure rfl⟩
theorem qB.t (T:String):qB M h (.type T):=⟨.machine,.inr (.inl rfl),Looks.of_pure rfl⟩
section
variable {α β:Type} {KE:Ke} {P:Value→Sto→Shared→Prop}
theorem Tri.tailCall {t:Sem Value} (h:Tri B c t m σ s P KE):Tri B c (t>>=fun r=>holding [r] point>>=fun _=>Pure.pure r) m σ s P KE:=by
 refine aa (aJ h (fun r M8 hr=>aa (ay (lq (ac hr)))) fun _ _ x=>x)
theorem Tri.ite {cc:Prop} [Decidable cc] {x y:Sem Value} (h1:Tri B c x m σ s P KE) (h2:Tri B c y m σ s P KE):Tri B c (if cc then x else y) m σ s P KE:=iteInduction (motive:=fun z=>Tri B c z m σ s P KE) (fun _=>h1) fun _=>h2
theorem Tri.callWith (hc:c.Ok B) {xs:XL} {es:List Expr} (hs:bo es=true) (hx:EXs B c Sp gv xs es) {pos:Pos} {f:Value} {first:List Value} (hk:∀h,B.K.In h→qB (model B.prog B.w) h f) {K:List V→Sto→Prop}
  (h:jj Sp gv xs m σ K KE) (S:St B c m σ s)
  (k:∀vs ds J M0,St B c m J M0→Nq c σ s J M0→Rvs B (Pr J c.F) M0.heap vs ds→K ds J→Tri B c (call f (first++vs)) m J M0 P KE):
  Tri B c (callWith pos f first (backTo pos (starEach es c.env)) []) m σ s P KE:=by
 refine(Tri.hold (Tri.args hc hs hx h S)).bind fun a J M0 M3 M6 ⟨vs,ds,e,r,kk⟩=>.stand ?_;subst e;refine av fun gP gO=>?_;have hpl:((backTo pos (starEach es c.env)).any (·.1)||([]:List (Option PySem.Str×Sem Value)).any (·.1.isNone))=false:=by rw[iY hs];rfl
 refine aj (hk _ M3.inK) fun kp hkp L=>?_;have run:=k vs ds J M0 M3 M6 r kk;refine gO ?_;refine er hpl ?_;refine aa (wpG.any (L.here ?_));have marked (mk:Value):Tri B c (callMarked mk f (first++vs) []) m J M0 P KE:=by unfold callMarked;exact tb run
 rcases hkp with rfl|rfl|rfl<;>first|exact Tri.tailCall run|exact Tri.ite (Tri.tailCall run) (Tri.tailCall (marked _))
theorem iE (hc:c.Ok B) {xs:XL} {es:List Expr} (hs:bo es=true) (hx:EXs B c Sp gv xs es) {id:PySem.Str} {f:Value} (hg:B.mg id=none) (hb:bootBuiltins id=some f) (hn:id≠"__name__") (hki:c.env.kindOf id=some .globalImplicit) (hd:(id==("__debug__":PySem.Str))=false)
  (hk:∀h,B.K.In h→qB (model B.prog B.w) h f) {np pos:Pos} {K:List V→Sto→Prop} (h:jj Sp gv xs m σ K KE) (S:St B c m σ s)
  (k:∀vs ds J M0,St B c m J M0→Nq c σ s J M0→Rvs B (Pr J c.F) M0.heap vs ds→K ds J→Tri B c (call f vs) m J M0 P KE):
  Tri B c (eval (.Call (.Name id np) es [] pos) c.env) m σ s P KE:=by
 show Tri B c (eval (.Name id np) c.env>>=fun f=>PySem.callWith pos f [] (backTo pos (starEach es c.env)) []) m σ s P KE;refine aa (wpG.any (tM hc S hg hb hn hki hd ?_));exact Tri.callWith hc hs hx hk h S k
theorem wL {a:X} {K:List V→Sto→Prop} (h:vcX Sp gv a m σ (fun d J=>K [d] J) KE):jj Sp gv (.cons a .nil) m σ K KE:=h
theorem xX (r:Rvs B Q h vs [d]):∃v,vs=[v]∧Rv B Q h v d:=by
 refine av fun gP gO=>?_;refine aZ r.inv fun v r e a x=>?_;refine gO ?_;cases x.inv;exact⟨v,e,a⟩
noncomputable def mX:Nat→PySem.Str
 |0=>"len"|1=>"ord"|2=>"chr"|3=>"bytes"|_=>"sorted"
theorem lt5 {P:Nat→Prop} (h0:P 0) (h1:P 1) (h2:P 2) (h3:P 3) (h4:P 4) {k:Nat} (h:k<5):P k:=by
 rcases k with _|_|_|_|_|k
 ·exact h0
 ·exact h1
 ·exact h2
 ·exact h3
 ·exact h4
 ·exact absurd h (t8.mpr (m7 5 k))
theorem zE {k:Nat} (h:k<5):bootBuiltins (mX k)=some (zR k):=
 lt5 (P:=fun k=>bootBuiltins (mX k)=some (zR k)) PyProof.Rows.Boot.«len» PyProof.Rows.Boot.«ord» PyProof.Rows.Boot.«chr» PyProof.Rows.Boot.«bytes» PyProof.Rows.Boot.«sorted» h
theorem zD (k:Nat):qB M h (zR k):=by
 rcases k with _|_|_|_|k
 ·exact .b _
 ·exact .b _
 ·exact .b _
 ·exact .t _
 ·exact .b _
theorem lk (H:HR B F σ h) (e:σ a=some (.barr b)):∃bs:Array UInt8,h.get? a=some (cE bs)∧bs.toList.map (·.toNat)=b∧bs.size=b.length∧b.length≤ah:=by
 refine av fun gP gO=>?_;refine eQ (H.ob a _ e) fun bs h0 e1 e2=>?_;refine gO ?_;exact⟨bs,h0,e1,by rw[←e1,f7,Array.length_toList],e2⟩
theorem KR (hc:c.Ok B) (hh:c.hd=true) {k:Nat} {v:Value} {d:V} {K:Kx} (S:St B c m σ s) (r:Rv B (Pr σ c.F) s.heap v d) (hk:k<5) (h:xZ k d σ K):dA B c (call (zR k) [v]) m σ s (PV B c K) KE:=by
 revert h
 refine lt5 (P:=fun k=>xZ k d σ K→dA B c (call (zR k) [v]) m σ s (PV B c K) KE) ?_ ?_ ?_ ?_ (fun h=>yv hc S r h) hk<;>intro h
 ·cases d<;>try exact JI S r h
  refine aZ r.inv fun x t z2_ z3_ hl=>?_;subst z2_;subst z3_;exact P.len_str (I7.mpr (AZ hl)) (Tri.int S _ _ h)
 ·refine aj (gy h) fun cc z1_ h=>?_;subst z1_;refine aZ r.inv fun x t z2_ hx hl=>?_;subst z2_;obtain rfl:x=⟨#[cc]⟩:=lA hx;exact ord_of_one rfl (Tri.int S _ _ h)
 ·refine aj (cJ h) fun i z1_ h=>?_;subst z1_;obtain⟨t,rfl⟩:=r.inv;exact chr_of_range h.1.1 h.1.2 (Tri.str S (l:=[_]) rfl (by show 1≤ah;decide) _ _ h.2)
 ·cases d<;>try exact DO hc hh S r h
  refine aj (ji h) fun b e h=>?_;cases r.inv;refine av fun gP gO=>?_;refine sO (lk S.hr e) fun bs h0 e1 e2 e3=>?_;refine gO ?_;exact pk h0 (by rw[e2];exact aS e3) ⟨σ,S.toks _,.toks ..,_,.bytes _ _ e1,h⟩
theorem Kd (hc:c.Ok B) (hh:c.hd=true) {k:Nat} {a:X} {ea:Expr} (hk:k<5) (ha:EX B c Sp gv a ea) (hst:az ea=true) (hg:B.mg (mX k)=none) (hki:c.env.kindOf (mX k)=some .globalImplicit) {np pos:Pos}:
  EX B c Sp gv (.blt k a) (.Call (.Name (mX k) np) [ea] [] pos):=by
 intro m σ s K KE h S;have hn:mX k≠"__name__":=lt5 (P:=fun k=>mX k≠"__name__") (by decide) (by decide) (by decide) (by decide) (by decide) hk;have hd:(mX k==("__debug__":PySem.Str))=false:=lt5 (P:=fun k=>(mX k==("__debug__":PySem.Str))=false) (by decide) (by decide) (by decide) (by decide) (by decide) hk;refine iE hc (xs:=.cons a .nil) (show bo [ea]=true from d8.mpr ⟨hst,rfl⟩) (cz hst ha ej hc) hg (zE hk) hn hki hd (fun _ _=>zD k) (K:=fun ds J=>ig ds fun d=>xZ k d J K) (wL h) S fun vs ds J M0 M3 M6 r kk=>?_;refine aj (gx kk) fun d z1_ kk=>?_;subst z1_;refine aj (xX r) fun v z1_ r'=>?_;subst z1_;exact(KR hc hh M3 r' hk kk).up
end
section
open PySem PySem.W PyProof.Rows PySem.Calls PySem.StrLaws Builtin.Str
noncomputable def bT (c:Nat):List Nat→Nat→List Nat
 |[],_=>[]
 |x::r,k=>if x=c then k::bT c r (k+1) else bT c r (k+1)
theorem pY (s:PySem.Str) (c i:Nat):subAt s ⟨#[c]⟩ i=decide (s.cps.toList[i]?=some c):=by
 simp only[PySem.StrLaws.subAt_eq];show((s.cps.toList.drop i).take 1==[c])=_;cases h:s.cps.toList.drop i with
 |nil=>
  have:s.cps.toList[i]?=none:=by
   rw[u0];exact o9.mp h
  rw[this];rfl
 |cons a r=>
  have:s.cps.toList[i]?=some a:=by
   have:=congrArg List.head? h;rw[B9] at this;exact this
  refine er this ?_;show([a]==[c])=decide (some a=some c);by_cases q:a=c
  ·rw[q,l9,f9 rfl]
  ·exact er (j6.mpr fun z=>q (j2 z).1) (er (c9 fun z=>q (c7 z)) rfl)
theorem iB {c x:Nat} {r:List Nat} {k:Nat} (h:x=c):bT c (x::r) k=k::bT c r (k+1):=i7 h
theorem iC {c x:Nat} {r:List Nat} {k:Nat} (h:x≠c):bT c (x::r) k=bT c r (k+1):=i3 h
theorem uI (s:PySem.Str) (c limit:Nat):∀(l:List Nat) (lo:Nat) (found:Array Nat) (free:Nat),s.cps.toList.drop lo=l→free≤lo→
  (forIn (List.range' lo (l.length+1)) (found,free) (occBody s ⟨#[c]⟩ s.length limit)).run.fst.toList=found.toList++(bT c l lo).take (limit - found.size):=by
 intro l
 induction l with
 |nil=>
  intro lo found free h hf;have hlo:s.length≤lo:=o9.mp h;show(forIn [lo] (found,free) (occBody s ⟨#[c]⟩ s.length limit)).run.fst.toList=found.toList++List.take _ [];rw[I9,show occBody s ⟨#[c]⟩ s.length limit lo (found,free)=pure (ForInStep.yield (found,free)) from i3 fun z=>t8.mpr hlo z.1.2,List.take_nil,d7];rfl
 |cons x r ih=>
  intro lo found free h hf;have hx:=congrArg List.head? h;rw[B9] at hx;replace hx:s.cps.toList[lo]?=some x:=hx;have hr:s.cps.toList.drop (lo+1)=r:=by
   rw[←K7,h];rfl
  have no (n:¬(found.size<limit∧x=c)) (e:(bT c (x::r) lo).take (limit - found.size)=(bT c r (lo+1)).take (limit - found.size)):
    (forIn (List.range' lo ((x::r).length+1)) (found,free) (occBody s ⟨#[c]⟩ s.length limit)).run.fst.toList=found.toList++(bT c (x::r) lo).take (limit - found.size):=by
   rw[w9,I9,show occBody s ⟨#[c]⟩ s.length limit lo (found,free)=pure (ForInStep.yield (found,free)) from i3 fun z=>n ⟨z.1.1.1,by
    have:=z.2;rw[pY,hx] at this;exact c7 (c8 this)⟩,e]
   exact ih (lo+1) found free hr (j1 hf)
  by_cases q:x=c
  ·by_cases z:found.size<limit
   ·have e2:limit - found.size=(limit - (found.push lo).size)+1:=by rw[Array.size_push,Nat.sub_add_eq,Nat.sub_add_cancel (Nat.sub_pos_of_lt z)]
    rw[w9,I9,show occBody s ⟨#[c]⟩ s.length limit lo (found,free)=pure (ForInStep.yield (found.push lo,lo+1)) from i7 ⟨⟨⟨z,hf⟩,(i5.mp hx).1⟩,by rw[pY,hx,q,f9 rfl]⟩];refine(ih (lo+1) (found.push lo) (lo+1) hr (f3 _)).trans ?_;rw[iB q,e2,List.take_succ_cons,Array.toList_push,e9];rfl
   ·exact no (fun n=>z n.1) (by rw[I5 (t8.mp z),List.take_zero,List.take_zero])
  ·exact no (fun n=>q n.2) (by rw[iC q])
theorem mO (s:PySem.Str) (c lo limit:Nat) (hlo:lo≤s.length):occurrences s ⟨#[c]⟩ lo s.length limit=(bT c (s.cps.toList.drop lo) lo).take limit:=by
 rw[occ_eq];have e:s.length+1 - lo=(s.cps.toList.drop lo).length+1:=by
  refine er z4 ?_;exact Nat.sub_add_comm hlo
 refine er e (er (uI s c limit _ lo #[] lo rfl (f3 _)) ?_);rfl
theorem qr (c:Nat) (l:List Nat):∀(k:Nat),bv c l k=match (bT c l k).take 1 with|i::_=>(i:Int)|[]=> -1:=by
 induction l with
 |nil=>exact fun k=>rfl
 |cons x r ih=>
  intro k;by_cases q:x=c
  ·rw[iB q];exact i7 q
  ·rw[iC q,←ih (k+1)];exact i3 q
theorem tN (c:Nat) (l:List Nat):∀(k:Nat),bT c l k=[]→c∉l:=by
 induction l with
 |nil=>exact fun _ _=>w8
 |cons x r ih=>
  intro k h;by_cases q:x=c
  ·rw[iB q] at h;exact nomatch h
  ·rw[iC q] at h;exact fun m=>(d0.mp m).elim (fun z=>q z.symm) (ih _ h)
theorem De (c:Nat) (l:List Nat):∀(k:Nat),(bT c l k).length≤l.length:=by
 induction l with
 |nil=>exact fun _=>f3 _
 |cons x r ih=>
  intro k;by_cases q:x=c
  ·rw[iB q];exact i9 (ih _)
  ·rw[iC q];exact j1 (ih _)
noncomputable def wX (l:List Nat):Nat→List Nat→List (List Nat)
 |a,[]=>[l.drop a]
 |a,c::r=>((l.drop a).take (c - a))::wX l (c+1) r
theorem uN (c:Nat) (l r:List Nat):∀(k a:Nat),l.drop k=r→a≤k→∀p q,bL c r=p::q→wX l a (bT c r k)=(((l.drop a).take (k - a))++p)::q:=by
 induction r with
 |nil=>
  intro k a h ha p q e;refine am (j2 e) fun z0_ z1_=>?_;subst z0_;subst z1_;show[l.drop a]=_;rw[C4 (by rw[z4];exact I8 (o9.mp h) a),d7]
 |cons x r ih=>
  intro k a h ha p q e;have hr:l.drop (k+1)=r:=by rw[←K7,h];rfl
  refine cu (eg c r) fun p' q' hq=>?_;by_cases hx:x=c
  ·rw[gA hx] at e;refine am (j2 e) fun z0_ z1_=>?_;subst z0_;subst z1_;rw[iB hx,d7];refine congrArg (_:: ·) ?_;rw[ih (k+1) (k+1) hr (f3 _) p' q' hq,Nat.sub_self,List.take_zero,y1,hq]
  ·rw[fb hx hq] at e;refine am (j2 e) fun z0_ z1_=>?_;subst z0_;subst z1_;have e2:=congrArg List.head? h;rw[B9] at e2;rw[iC hx,ih (k+1) a hr (j1 ha) p' _ hq,Nat.sub_add_comm ha,List.take_add_one,F5,Nat.add_sub_of_le ha,e2,e9];rfl
theorem yu (c:Nat) (l:List Nat):wX l 0 (bT c l 0)=bL c l:=by
 refine cu (eg c l) fun p q hq=>?_;rw[uN c l l 0 0 rfl (f3 _) p q hq,hq];rfl
theorem yN (x:PySem.Str) (cuts:List Nat):∀(a:Nat),(partsFrom x 1 a cuts).map (·.cps.toList)=wX x.cps.toList a cuts:=by
 induction cuts with
 |nil=>
  intro a;show[(strSub x a x.length).cps.toList]=[x.cps.toList.drop a];rw[strSub_toList,C4 (by rw[z4];exact f3 _)]
 |cons c r ih=>
  intro a;show(strSub x a c).cps.toList::(partsFrom x 1 (c+1) r).map (·.cps.toList)=_;rw[strSub_toList,ih (c+1)];rfl
theorem rX {c:Nat} {l:List Nat} (h:c∉l):bL c l=[l]:=by
 induction l with
 |nil=>rfl
 |cons x r ih=>exact fb (fun z=>h (by rw[z];exact .head _)) (ih fun z=>h (.tail _ z))
theorem mi (c:Nat) (l:List Nat):(bL c l).length≤l.length+1:=by
 induction l with
 |nil=>exact f3 _
 |cons x r ih=>
  by_cases hx:x=c
  ·rw[gA hx];exact i9 ih
  ·refine cu (eg c r) fun p q hq=>?_;rw[hq] at ih;rw[fb hx hq];exact j1 ih
theorem rY (c:Nat) (l:List Nat):∀p∈bL c l,p.length≤l.length:=by
 induction l with
 |nil=>exact fun p h=>by rw[j4.mp h];exact f3 _
 |cons x r ih=>
  intro p h;by_cases hx:x=c
  ·rw[gA hx] at h;rcases d0.mp h with e|h
   ·rw[e];exact g6 _
   ·exact j1 (ih p h)
  ·refine cu (eg c r) fun p' q' hq=>?_;rw[hq] at ih;rw[fb hx hq] at h;rcases d0.mp h with e|h
   ·rw[e];exact i9 (ih p' (.head _))
   ·exact j1 (ih p (.tail _ h))
section
variable {KE:Ke} {P:Value→Sto→Shared→Prop}
theorem EU (xs:List PySem.Str):∀(ls:List (List Nat)) (t:Nat),xs.map (·.cps.toList)=ls→(∀l∈ls,l.length≤ah)→Rvs B Q h (strsFrom t xs) (ls.map .str):=by
 induction xs with
 |nil=>exact fun ls t e b=>e▸ .nil
 |cons x r ih=>exact fun ls t e b=>e▸ .cons (.str x t rfl (b _ (e▸ .head _))) (ih _ (t+1) rfl fun l hl=>b l (e▸ .tail _ hl))
theorem yU:∀k<128,Unicode.lowerOf k=[eJ k]:=by decide+kernel
theorem mN {x:PySem.Str} {k:Nat} (h:x.cps.toList=[k]):x=⟨#[k]⟩:=by
 induction x with
 |mk a=>
  have:a= #[k]:=by rw[←Array.toArray_toList (xs:=a)];exact congrArg List.toArray h
  exact er this rfl
theorem qi (hk:k<128):placed ⟨#[k]⟩ (fun i _=>Unicode.lowerAt #[k] i)= #[eJ k]:=by
 have h1:Unicode.lowerAt #[k] 0=[eJ k]:=by
  show(if (k==931&&Unicode.endsWord #[k] 0)=true then _ else _)=_;refine er (i3 fun z=>absurd (eq_of_beq (d8.mp z).1) (s9 (v9 hk (by decide)))) ?_;exact yU k hk
 simp[placed,h1]
theorem CJ {v:Value} {k:Nat} {K:Kx} (S:St B c m σ s) (r:Rv B (Pr σ c.F) s.heap v (.str [k])) (hk:k<128) (kk:K (.str [eJ k]) σ):dA B c (call (.builtin "str.lower") [v]) m σ s (PV B c K) KE:=by
 refine aZ r.inv fun x t z2_ hx hl=>?_;subst z2_;obtain rfl:=mN hx;refine call_gives F.slot_str_lower (B8 _ _ _) F.entry_str_lower (F.args_str_lower_1 _) (gives_str_lower _ t (by rw[(qi hk)];rfl)) ?_;refine er ((qi hk)) ?_;exact⟨by show 1≤sizeLine;decide,Tri.str S (l:=[_]) rfl (by show 1≤ah;decide) _ _ kk⟩
theorem Gi {n:Nat} {i:Int} (h:0≤i) (h':i≤n):fromIndex n i=i.toNat:=by
 unfold fromIndex;refine er (i3 (r8.mpr h)) ?_;exact er (Int.max_eq_right h) rfl
theorem Gj {v Nh NT:Value} {x:List Nat} {k:Nat} {i:Int} {K:Kx} (S:St B c m σ s) (r:Rv B (Pr σ c.F) s.heap v (.str x)) (MR:Rv B (Pr σ c.F) s.heap Nh (.str [k])) (Nr:Rv B (Pr σ c.F) s.heap NT (.int i))
  (hi:0≤i∧i≤x.length) (kk:K (.int (bv k (x.drop i.toNat) i.toNat)) σ):dA B c (call (.builtin "str.find") [v,Nh,NT]) m σ s (PV B c K) KE:=by
 refine aZ r.inv fun x t z2_ z3_ hl=>?_;subst z2_;subst z3_;refine aZ MR.inv fun y u z2_ hy _=>?_;subst z2_;refine ar Nr.inv fun w z1_=>?_;subst z1_;obtain rfl:=mN hy;have h2:i≤(x.length:Int):=hi.2;refine call_gives F.slot_str_find (B8 _ _ _) F.entry_str_find (F.args_str_find_3 _ _ _) (gives_str_find_from x _ i t u w) ?_;refine er (Gi hi.1 h2) (er (mO x k i.toNat 1 (I6.mpr h2)) ?_);rw[qr] at kk;exact Tri.int S _ _ kk
theorem ym (h:l.take 1=[]):l=[]:=by
 induction l with
 |nil=>rfl
 |cons a r=>cases h
theorem Dd {v Nh:Value} {x:List Nat} {k:Nat} {K:Kx} (S:St B c m σ s) (r:Rv B (Pr σ c.F) s.heap v (.str x)) (MR:Rv B (Pr σ c.F) s.heap Nh (.str [k]))
  (hi:x.contains k=true) (kk:K (.int (bv k x 0)) σ):dA B c (call (.builtin "str.index") [v,Nh]) m σ s (PV B c K) KE:=by
 refine aZ r.inv fun x t z2_ z3_ hl=>?_;subst z2_;subst z3_;refine aZ MR.inv fun y u z2_ hy _=>?_;subst z2_;obtain rfl:=mN hy;rw[qr] at kk;have eo:=mO x k 0 1 (g6 _);rw[G1] at eo;cases hq:(bT k x.cps.toList 0).take 1 with
 |nil=>exact absurd (d6.mp hi) (tN _ _ _ (ym hq))
 |cons a rest=>
  rw[hq] at eo kk;exact call_gives F.slot_str_index (B8 _ _ _) F.entry_str_index (F.args_str_index_2 _ _) (gives_str_index x _ t u a rest eo) (Tri.int S _ _ kk)
theorem CV (k:Nat):Builtin.Str.strKind ⟨#[k]⟩=if k<256 then 1 else if k<65536 then 2 else 4:=by
 unfold Builtin.Str.strKind;by_cases a:k<256<;>by_cases b:k<65536<;>simp[a,b]
theorem Ga (hk:k∈x.cps.toList) (h:Builtin.Str.strKind x<Builtin.Str.strKind ⟨#[k]⟩):False:=by
 have e1:∀n,(x.cps.all fun z=>decide (z<n))=true→k<n:=fun n hn=>by
  rw[←Array.all_toList,j9] at hn;exact c8 (hn k hk)
 rw[CV] at h;replace h:(if (x.cps.all fun z=>decide (z<256))=true then 1 else if (x.cps.all fun z=>decide (z<65536))=true then 2 else 4)<(if k<256 then 1 else if k<65536 then 2 else 4):=h;by_cases a:k<256
 ·rw[i7 a] at h;exact t8.mpr (iteInduction (motive:=fun z=>1≤z) (fun _=>f3 _) fun _=>iteInduction (motive:=fun z=>1≤z) (fun _=>by decide) fun _=>by decide) h
 ·rw[i3 a,i3 (fun z=>a (e1 256 z))] at h;by_cases b:k<65536
  ·rw[i7 b] at h;exact t8.mpr (iteInduction (motive:=fun z=>2≤z) (fun _=>f3 _) fun _=>by decide) h
  ·rw[i3 b,i3 (fun z=>b (e1 65536 z))] at h;exact H7 _ h
theorem BW (hc:c.Ok B) {v Nh:Value} {x:List Nat} {k:Nat} {K:Kx} (S:St B c m σ s) (r:Rv B (Pr σ c.F) s.heap v (.str x)) (MR:Rv B (Pr σ c.F) s.heap Nh (.str [k]))
  (hx9:x.length<ah) (kk:K (.lst ((bL k x).map .str)) σ):dA B c (call (.builtin "str.split") [v,Nh]) m σ s (PV B c K) KE:=by
 refine aZ r.inv fun x t z2_ z3_ hl=>?_;subst z2_;subst z3_;refine aZ MR.inv fun y u z2_ hy _=>?_;subst z2_;obtain rfl:=mN hy;have hi:=De k x.cps.toList 0;have whole (hk:k∉x.cps.toList):=Tri.newList (K:=K) hc S (.cons (.str x t rfl hl) .nil) (by show 1≤ah;decide) (by rw[rX hk] at kk;exact kk) s.toks;cases h1:(decide (x.length<(⟨#[k]⟩:PySem.Str).length)||decide (strKind x<strKind ⟨#[k]⟩)) with
 |true=>
  refine D1 I1 (B8 _ _ _) F.entry_str_split (F.args_str_split_2 _ _) (meets_str_split_cannot_occur x _ t u h1) (whole fun hk=>?_);rcases l8.mp h1 with h|h
  ·exact absurd (List.length_pos_of_mem hk) (t8.mpr (Nat.le_of_lt_succ (c8 h)))
  ·exact Ga hk (c8 h)
 |false=>
  cases hf:(occurrences x ⟨#[k]⟩ 0 x.length (x.length+1)).isEmpty with
  |true=>
   refine D1 I1 (B8 _ _ _) F.entry_str_split (F.args_str_split_2 _ _) (meets_str_split_not_found x _ t u h1 rfl hf) (whole ?_);rw[mO x k 0 _ (g6 _),G1,C4 (j1 hi:(bT k x.cps.toList 0).length≤x.length+1)] at hf;exact tN _ _ _ (t6.mp hf)
  |false=>
   have eo:partsBetween x (occurrences x ⟨#[k]⟩ 0 x.length (x.length+1)) 1=partsFrom x 1 0 (bT k x.cps.toList 0):=by
    rw[partsBetween_eq,mO x k 0 _ (g6 _),G1,C4 (j1 hi:(bT k x.cps.toList 0).length≤x.length+1)]
   have em:(partsFrom x 1 0 (bT k x.cps.toList 0)).map (·.cps.toList)=bL k x.cps.toList:=by rw[yN,yu]
   have hlen:(partsFrom x 1 0 (bT k x.cps.toList 0)).length≤ah:=by
    have:=mi k x.cps.toList;rw[←em,f7] at this;exact b9 this hx9
   have key:=meets_str_split_sep x ⟨#[k]⟩ t u h1 rfl hf (aS hl) (by
    show(partsBetween x _ 1).length≤_;rw[eo];exact aS hlen)
   refine D1 I1 (B8 _ _ _) F.entry_str_split (F.args_str_split_2 _ _) key ?_;refine er (show(⟨#[k]⟩:PySem.Str).length=1 from rfl) (er eo ?_);refine Tri.newList hc S (EU _ _ _ em fun l hl'=>b9 (rY k _ l hl') hl) ?_ kk _;rw[f7];exact b9 (mi k _) hx9
end
end
section
variable {α β:Type} {KE:Ke} {P:Value→Sto→Shared→Prop}
theorem Pr.put_at (e:σ a≠none) (p:Pr σ F b):Pr (σ.put a o) F b:=
 ⟨by
  have:b≠a:=fun z=>e (by rw[←z];exact p.1);rw[aA σ o this];exact p.1,p.2⟩
theorem HR.put_at (H:HR B F σ h) (e:σ a≠none) (hs:Heap.SameBut a h h') (hr:RO B (Pr (σ.put a o) F) h' a o):HR B F (σ.put a o) h':=by
 have kp:∀b x,Pr σ F b→h.get? b=some x→Pr (σ.put a o) F b∧h'.get? b=some x:=fun b x p q=>
  ⟨Pr.put_at e p,(hs.2 b fun z=>e (by rw[←z];exact p.1)).trans q⟩
 refine⟨fun b x q=>?_,fun b q=>?_,fun b q=>?_⟩
 ·by_cases z:b=a
  ·subst z;rw[ai] at q;cases q;exact hr
  ·rw[aA σ o z] at q;exact(H.ob b x q).keep kp fun _ w=>(hs.2 b z).trans w
 ·by_cases z:b=a
  ·subst z;exact H.priv b e
  ·rw[aA σ o z] at q;exact H.priv b q
 ·by_cases z:b=a
  ·subst z;exact H.new b e
  ·rw[aA σ o z] at q;exact H.new b q
theorem Nq.put_at (c:FC) (e:σ a≠none) (h0:s.heap.get? a=some ob) (h1:h'.get? a=some ob') (hs:Heap.SameBut a s.heap h') (k:Nat):Nq c σ s (σ.put a o) {s with heap:=h',toks:=k}:=by
 refine⟨.sameBut hs h0 h1 e,fun b z=>?_,⟨rfl,rfl,rfl⟩⟩;by_cases q:b=a
 ·subst q;exact .inl e
 ·rw[aA σ o q] at z;exact .inl z
theorem St.put_at (hc:c.Ok B) (S:St B c m σ s) (e:σ a≠none) (h0:s.heap.get? a=some ob) (h1:h'.get? a=some ob') (hs:Heap.SameBut a s.heap h') (k:Nat)
  (hr:RO B (Pr (σ.put a o) c.F) h' a o):St B c m (σ.put a o) {s with heap:=h',toks:=k}:=S.step hc (Nq.put_at c e h0 h1 hs k) (S.hr.put_at e hs hr)
theorem iw (hc:c.Ok B) (S:St B c m σ s) (e:σ a=some (.list xs)) (h0:s.heap.get? a=some (lstO vs n)) (f:Array Value→Array Value) (hf:f vs.toArray=ws.toArray) (hr:Rvs B (Pr σ c.F) s.heap ws ys) (hl:ys.length≤ah) (k:Nat):
  St B c m (σ.put a (.list ys)) {s with heap:=s.heap.update a (Obj.mapSeq f),toks:=k}∧Nq c σ s (σ.put a (.list ys)) {s with heap:=s.heap.update a (Obj.mapSeq f),toks:=k}:=by
 have e':σ a≠none:=by rw[e];exact fun z=>nomatch z
 have h1:=IsL.update (h:=s.heap) (l:=a) h0 f;rw[hf] at h1;have hs:Heap.SameBut a s.heap (s.heap.update a (Obj.mapSeq f)):=B5 ..;exact⟨S.put_at hc e' h0 h1 hs k ⟨ws,_,h1,(Nq.put_at c (o:=.list ys) e' h0 h1 hs k).rvs hc hr,hl⟩,(Nq.put_at c (o:=.list ys) e' h0 h1 hs k)⟩
theorem iR (S:St B c m σ s) (e:σ a=some (.list xs)):∃vs n,s.heap.get? a=some (lstO vs n)∧Rvs B (Pr σ c.F) s.heap vs xs∧xs.length≤ah:=S.hr.ob a _ e
theorem zI (hc:c.Ok B) {v:Value} {d:V} {a:Addr} {xs:List V} {K:Kx} (S:St B c m σ s) (r:Rv B (Pr σ c.F) s.heap v d) (e:σ a=some (.list xs)) (hl:xs.length<ah) (kk:K .none (σ.put a (.list (xs++[d])))):
  dA B c (call (.builtin "list.append") [.ref a,v]) m σ s (PV B c K) KE:=by
 refine av fun gP gO=>?_;refine aZ (iR S e) fun vs n h0 r0 l0=>?_;have hz:vs.toArray.size≤sizeLine:=by rw[k9,r0.length];exact aS l0
 refine gO ?_;refine D1 F.slot_list_append ⟨_,h0,rfl⟩ F.entry_list_append (F.args_list_append_2 _ _) (list_append a vs.toArray n v hz) ⟨h0,?_⟩;refine av fun gP gO=>?_;refine gO ?_;exact⟨_,(iw hc S e h0 (fun x=>x.push v) (ws:=vs++[v]) (ys:=xs++[d]) (List.push_toArray ..) (r0.append (.cons r .nil)) (by rw[b0];exact hl) s.toks).1,(iw hc S e h0 (fun x=>x.push v) (ws:=vs++[v]) (ys:=xs++[d]) (List.push_toArray ..) (r0.append (.cons r .nil)) (by rw[b0];exact hl) s.toks).2,_,.none,kk⟩
theorem zg (hc:c.Ok B) {v:Value} {a:Addr} {xs ys:List V} {K:Kx} (S:St B c m σ s) (r:Rv B (Pr σ c.F) s.heap v (.lst ys)) (e:σ a=some (.list xs)) (hl:xs.length+ys.length≤ah) (kk:K .none (σ.put a (.list (xs++ys)))):
  dA B c (call (.builtin "list.extend") [.ref a,v]) m σ s (PV B c K) KE:=by
 refine av fun gP gO=>?_;refine aZ (iR S e) fun vs n h0 r0 l0=>?_;refine jw r.inv fun b ws n2 z3_ hb pb rb lb=>?_;subst z3_;have hz:vs.toArray.size≤sizeLine:=by rw[k9,r0.length];exact aS l0
 have hz2:vs.toArray.size+ws.toArray.size≤sizeLine:=by rw[k9,k9,r0.length,rb.length];exact aS hl
 refine gO ?_;refine D1 F.slot_list_extend ⟨_,h0,rfl⟩ F.entry_list_extend (F.args_list_extend_2 _ _) (AutoSeq1.list_extend_list_list_0 a vs.toArray n b ws.toArray n2 ?_ hz (j1 hz2)) ⟨h0,hb,?_⟩
 ·have q:Builtin.List.listTooLong (vs.toArray.size+ws.toArray.size)=false:=c9 (t8.mpr hz2);rw[q,v4];exact F3
 ·exact⟨_,(iw hc S e h0 (fun x=>x++ws.toArray) (ws:=vs++ws) (ys:=xs++ys) (K4 ..) (r0.append rb) (by rw[b0];exact hl) s.toks).1,(iw hc S e h0 (fun x=>x++ws.toArray) (ws:=vs++ws) (ys:=xs++ys) (K4 ..) (r0.append rb) (by rw[b0];exact hl) s.toks).2,_,.none,kk⟩
theorem Ci (r:Rvs B Q h vs xs):Rvs B Q h vs.dropLast xs.dropLast:=by
 rw[List.dropLast_eq_take,List.dropLast_eq_take,r.length];exact tm r _
theorem Jp (hc:c.Ok B) {a:Addr} {xs:List V} {d:V} {K:Kx} (S:St B c m σ s) (e:σ a=some (.list xs)) (hg:xs.getLast?=some d) (kk:K d (σ.put a (.list xs.dropLast))):
  dA B c (call (.builtin "list.pop") [.ref a]) m σ s (PV B c K) KE:=by
 refine av fun gP gO=>?_;refine aZ (iR S e) fun vs n h0 r0 l0=>?_;have hz:vs.toArray.size≤sizeLine:=by rw[k9,r0.length];exact aS l0
 rw[List.getLast?_eq_getElem?] at hg;refine aj (r0.get hg) fun v hv rv=>?_;have hv':vs.toArray[vs.toArray.size - 1]?=some v:=by rw[k9,r0.length];simpa using hv
 refine gO ?_;refine D1 F.slot_list_pop ⟨_,h0,rfl⟩ F.entry_list_pop (F.args_list_pop_1 _) (MeetsSeq.list_pop_last a vs.toArray n v hv' hz) ⟨h0,?_⟩;have he:vs.toArray.eraseIdxIfInBounds (vs.toArray.size - 1)=vs.dropLast.toArray:=by
  apply Array.toList_inj.mp;simp[List.eraseIdx_length_sub_one]
 have q7:=iw hc S e h0 (fun x=>x.eraseIdxIfInBounds (vs.toArray.size - 1)) (ws:=vs.dropLast) (ys:=xs.dropLast) he (Ci r0) (by rw[List.length_dropLast];exact b9 (F9 _ _) l0) s.toks;exact⟨_,q7.1,q7.2,_,q7.2.rv hc rv,kk⟩
theorem iW (hc:c.Ok B) {a:Addr} {b:List Nat} {bs:Array UInt8} (S:St B c m σ s) (e:σ a=some (.barr b)) (h0:s.heap.get? a=some (cE bs)) {MO:Heap} (hk:∀x o,s.heap.get? x=some o→MO.get? x=some o) (f:Array UInt8→Array UInt8) {b':List Nat}
  (hf:(f bs).toList.map (·.toNat)=b') (hl:b'.length≤ah) (k:Nat):
  St B c m (σ.put a (.barr b')) {s with heap:=MO.update a (Obj.mapBytearray f),toks:=k}∧Nq c σ s (σ.put a (.barr b')) {s with heap:=MO.update a (Obj.mapBytearray f),toks:=k}:=by
 have e':σ a≠none:=by rw[e];exact fun z=>nomatch z
 have h0':MO.get? a=some (cE bs):=hk _ _ h0;have h1:=oW f h0';exact⟨(S.kept hc hk s.toks).put_at hc e' h0' h1 (B5 ..) k ⟨_,h1,hf,hl⟩,(Nq.kept c σ hk s.toks).trans (Nq.put_at (s:={s with heap:=MO,toks:=s.toks}) c (o:=.barr b') e' h0' h1 (B5 ..) k)⟩
theorem DP {i:Int} (h0:0≤i) (h1:i<256):i.toNat.toUInt8.toNat=i.toNat:=Nat.mod_eq_of_lt ((x8 h0).mpr h1)
theorem sH (hc:c.Ok B) {v:Value} {i:Int} {a:Addr} {b:List Nat} {K:Kx} (S:St B c m σ s) (r:Rv B (Pr σ c.F) s.heap v (.int i)) (e:σ a=some (.barr b)) (hl:b.length<ah) (h0:0≤i) (h1:i<256) (kk:K .none (σ.put a (.barr (b++[i.toNat])))):
  Tri B c (call (.builtin "bytearray.append") [.ref a,v]) m σ s (PV B c K) KE:=by
 refine sO (lk S.hr e) fun bs ho e1 e2 e3=>?_;refine ar r.inv fun t z1_=>?_;subst z1_;have q7:=iW hc S e ho (fun _ _ z=>z) (·.push i.toNat.toUInt8) (b':=b++[i.toNat]) (by rw[Array.toList_push,p0,e1];show b++[i.toNat.toUInt8.toNat]=_;rw[DP h0 h1]) (by rw[b0];exact hl) s.toks;exact mG hc.guards ho (by rw[e2];exact aS hl) h0 h1 ⟨_,q7.1,q7.2,_,.none,kk⟩
theorem sG (hc:c.Ok B) {v:Value} {Ny:List Nat} {a:Addr} {b:List Nat} {K:Kx} (S:St B c m σ s) (r:Rv B (Pr σ c.F) s.heap v (.bytes Ny)) (e:σ a=some (.barr b)) (hl:b.length+Ny.length≤ah) (kk:K .none (σ.put a (.barr (b++Ny)))):
  Tri B c (call (.builtin "bytearray.extend") [.ref a,v]) m σ s (PV B c K) KE:=by
 refine av fun gP gO=>?_;refine sO (lk S.hr e) fun bs ho e1 e2 e3=>?_;refine dU r.inv fun NL t z2_ h=>?_;subst z2_;refine gO ?_
 ·have hz:NL.size=Ny.length:=by rw[←h,f7,Array.length_toList]
  exact mF hc.guards ho (by rw[e2,hz];exact aS hl) ⟨_,(iW hc S e ho (fun _ _ z=>z) (· ++NL) (b':=b++Ny) (by rw[B4,p0,e1,h]) (by rw[b0];exact hl) s.toks).1,(iW hc S e ho (fun _ _ z=>z) (· ++NL) (b':=b++Ny) (by rw[B4,p0,e1,h]) (by rw[b0];exact hl) s.toks).2,_,.none,kk⟩
theorem pK (hc:c.Ok B) (hh:c.hd=true) {v:Value} {ys:List V} {is:List Int} {a:Addr} {b:List Nat} {K:Kx} (S:St B c m σ s) (r:Rv B (Pr σ c.F) s.heap v (.lst ys)) (e:σ a=some (.barr b)) (ei:bS ys=some is) (hr:∀i∈is,0≤i∧i<256) (hl:b.length+is.length≤ah)
  (kk:K .none (σ.put a (.barr (b++is.map Int.toNat)))):Tri B c (call (.builtin "bytearray.extend") [.ref a,v]) m σ s (PV B c K) KE:=by
 refine av fun gP gO=>?_;refine sO (lk S.hr e) fun bs ho e1 e2 e3=>?_;refine jw r.inv fun l ws n2 z3_ hb pb rb lb=>?_;subst z3_;refine gO ?_
 ·refine lU (l:=l) hc.guards (hc.handled hh) ho ⟨_,hb,rfl,n2,rfl⟩ (rB rb ei) hr (by rw[e2];exact aS hl) fun h' k' hk=>?_;exact⟨_,(iW hc S e ho hk (· ++byteArr is) (b':=b++is.map Int.toNat) (by rw[B4,p0,e1,iJ hr]) (by rw[b0,f7];exact hl) k').1,(iW hc S e ho hk (· ++byteArr is) (b':=b++is.map Int.toNat) (by rw[B4,p0,e1,iJ hr]) (by rw[b0,f7];exact hl) k').2,_,.none,kk⟩
theorem Du (hc:c.Ok B) (hg:B.mg "bytearray"=none) (hki:c.env.kindOf "bytearray"=some .globalImplicit):EX B c Sp gv .barr0 (.Call (.Name "bytearray" np) [] [] pos):=by
 intro m σ s K KE h S;refine iE (Sp:=Sp) (gv:=gv) hc (xs:=.nil) (es:=[]) rfl ej hg PyProof.Rows.Boot.«bytearray» (by decide) hki (by decide) (fun _ _=>.t _) (K:=fun ds J=>ds=[]∧J=σ) ⟨rfl,rfl⟩ S fun vs ds J M0 M3 M6 r ⟨e1,e2⟩=>?_;subst e1;subst e2;cases r.inv;refine sF hc.guards ?_;refine am (iW (s:={M0 with heap:=M0.heap.push (cE #[]),toks:=M0.toks}) hc (M3.put_new hc (ob:=cE #[]) (o:=.barr []) M0.toks ⟨#[],i2 _ rfl,rfl,g6 _⟩) (ai _ _ _) (i2 _ rfl) (fun _ _ z=>z) (fun _=> #[]) (b':=[]) rfl (g6 _) M0.toks) fun MU MT=>?_;have e:(J.put M0.heap.objs.size (.barr [])).put M0.heap.objs.size (.barr [])=J.put M0.heap.objs.size (.barr []):=by
  funext b;unfold Sto.put;split<;>rfl
 simp only[e] at MU MT;exact⟨_,MU,(Nq.put_new c J M0 (cE #[]) (.barr []) M0.toks).trans MT,_,.bref _,h _ M3.fresh.1⟩
theorem lC:∀{es:List Expr},bo es=true→(backTo pos (starEach es env)).all (!·.1)=true
 |[],_=>rfl
 |e::r,h=>by
  refine er (bY (d8.mp h).1) ?_;exact lC (es:=r) (d8.mp h).2
theorem Tri.meth (hb:bg eo=true) (hs:bo es=true) (hn:es.length<30) (hline:(apos.endLine==pos.line)=true)
  (ho:EX B c Sp gv o eo) (h:vcX Sp gv o m σ N9 KE) (S:St B c m σ s)
  (k:∀v d J M0,St B c m J M0→Nq c σ s J M0→Rv B (Pr J c.F) M0.heap v d→N9 d J→∃f first,(∀{pl:Sem Bool} {Q:Value×List Value→Shared→Prop} {E:Value→Shared→Prop},Q (f,first) M0→wpAny (model B.prog B.w) c.A (getMethod v name pl) Q E M0)∧
   Tri B c (PySem.callWith pos f first (backTo pos (starEach es c.env)) []) m J M0 P KE):
  Tri B c (eval (.Call (.Attribute eo name apos) es [] pos) c.env) m σ s P KE:=by
 rw[arm_eval_Call,jM hb];refine(ho _ _ _ _ _ h S).bind fun v J M0 M3 M6 ⟨d,r,kk⟩=>.stand ?_;refine av fun gP gO=>?_;refine dU (k v d J M0 M3 M6 r kk) fun f first hm hc=>?_
 have hform:methodCallForm (es.length+([]:List Keyword).length) (backTo pos (starEach es c.env)) (backToKw pos (keywordEach [] c.env))=true:=by
  unfold methodCallForm;refine er (lC hs) ?_;show(true&&(true&&decide (es.length+0+0<30)))=true;simp[hn]
 have hpos:methodCallPos true eo c.env apos pos=Pure.pure pos:=by unfold methodCallPos;simp[hline]
 refine gO ?_;unfold methodCall;refine er hform ?_;refine aa (ay (wpG.any (hm ?_)));exact aa (ci hpos hc)
theorem lE {a:Addr} {vs:List Value} {n:Nat} (h0:s.heap.get? a=some (lstO vs n)) {name:PySem.Str} {id:String} (slot:Slot "list" name id) (hty:typeOf (.builtin id)=pure (.type "method_descriptor")) {A:Around} {M:Model} {pl:Sem Bool} {Q:Value×List Value→Shared→Prop} {E:Value→Shared→Prop} (h:Q (.builtin id,[.ref a]) s):
  wpAny M A (getMethod (.ref a) name pl) Q E s:=getMethod_builtin (T:="list") ⟨_,h0,rfl⟩ F.plainAttrs_list slot hty (fun b e=>by cases e;exact⟨_,h0,rfl⟩) h
theorem tK {a:Addr} {b:Array UInt8} (h0:s.heap.get? a=some (cE b)) {name:PySem.Str} {id:String} (slot:Slot "bytearray" name id) (hty:typeOf (.builtin id)=pure (.type "method_descriptor")) {A:Around} {M:Model} {pl:Sem Bool} {Q:Value×List Value→Shared→Prop} {E:Value→Shared→Prop} (h:Q (.builtin id,[.ref a]) s):
  wpAny M A (getMethod (.ref a) name pl) Q E s:=getMethod_builtin (T:="bytearray") ⟨_,h0,rfl⟩ BF.vY slot hty (fun b e=>by cases e;exact⟨_,h0,rfl⟩) h
theorem ky {x:PySem.Str} {t:Tok} {name:PySem.Str} {id:String} (slot:Slot "str" name id) (hty:typeOf (.builtin id)=pure (.type "method_descriptor")) {A:Around} {M:Model} {pl:Sem Bool} {Q:Value×List Value→Shared→Prop} {E:Value→Shared→Prop} (h:Q (.builtin id,[.str x t]) s):
  wpAny M A (getMethod (.str x t) name pl) Q E s:=getMethod_builtin (T:="str") (B8 _ _ _) F.plainAttrs_str slot hty (fun b e=>by cases e) h
theorem eE (h:az e=true):bo [e]=true:=d8.mpr ⟨h,rfl⟩
theorem Tri.call1 (hc:c.Ok B) {a:X} {ea:Expr} (hst:az ea=true) (ha:EX B c Sp gv a ea) {pos:Pos} {id:String} {v:Value} {N9:Kx} (h:vcX Sp gv a m σ N9 KE) (S:St B c m σ s)
  (k:∀w d J M0,St B c m J M0→Nq c σ s J M0→Rv B (Pr J c.F) M0.heap w d→N9 d J→Tri B c (call (.builtin id) [v,w]) m J M0 P KE):
  Tri B c (PySem.callWith pos (.builtin id) [v] (backTo pos (starEach [ea] c.env)) []) m σ s P KE:=by
 refine Tri.callWith hc (xs:=.cons a .nil) (eE hst) (cz hst ha ej hc) (fun _ _=>.b _) (K:=fun ds J=>ig ds fun d=>N9 d J) (wL h) S fun vs ds J M0 M3 M6 r kk=>?_;refine aj (gx kk) fun d z1_ kk=>?_;subst z1_;refine aj (xX r) fun w z1_ r'=>?_;subst z1_;exact k w d J M0 M3 M6 r' kk
theorem Tri.call0 (hc:c.Ok B) {pos:Pos} {id:String} {v:Value} (S:St B c m σ s) (k:∀J M0,J=σ→St B c m J M0→Nq c σ s J M0→Tri B c (call (.builtin id) [v]) m J M0 P KE):
  Tri B c (PySem.callWith pos (.builtin id) [v] (backTo pos (starEach [] c.env)) []) m σ s P KE:=by
 refine Tri.callWith (Sp:=fun _ _ _ _ _=>True) (gv:=fun _=>[]) hc (xs:=.nil) (es:=[]) rfl ej (fun _ _=>.b _) (K:=fun ds M2=>ds=[]∧M2=σ) ⟨rfl,rfl⟩ S fun vs ds M2 M8 M7 MM MR ⟨q1,q2⟩=>?_;subst q1;cases MR.inv;exact k M2 M8 q2 M7 MM
theorem mq (g:Aj d σ):(∃a xs,d= .lref a∧σ a=some (.list xs))∨(∃a b,d= .bref a∧σ a=some (.barr b)):=by
 cases d<;>try exact False.elim g
 ·refine aj (je g) fun xs e _=>?_;exact .inl ⟨_,xs,rfl,e⟩
 ·refine aj (ji g) fun xs e _=>?_;exact .inr ⟨_,xs,rfl,e⟩
theorem lK (g:isS d):∃x,d= .str x:=by
 cases d<;>first|exact False.elim g|exact⟨_,rfl⟩
set_option tactic.hygienic true in
theorem Gm (hc:c.Ok B) (hh:c.hd=true) {a:Nat} {w:Value} {d:V} {K:Kx} (S:St B c m σ s) (r:Rv B (Pr σ c.F) s.heap w d) (k:gL (.bref a) d σ K):Tri B c (call (.builtin "bytearray.extend") [.ref a,w]) m σ s (PV B c K) KE:=by
 refine av fun gP gO=>?_;refine aj (ji k) fun b e k1=>?_;clear k;refine gO ?_;cases d<;>try exact False.elim k1
 ·exact sG hc S r e k1.1 k1.2
 ·rename_i ys
  have k:(match bS ys with|some is=>(b.length+is.length≤ah∧∀i∈is,0≤i∧i<256)∧K .none (σ.put a (.barr (b++is.map Int.toNat)))|none=>False):=k1;cases ei:bS ys with
  |none=>rw[ei] at k;exact False.elim k
  |some is=>rw[ei] at k;exact pK hc hh S r e ei k.1.2 k.1.1 k.2
theorem zi (hc:c.Ok B) (hb:bg eo=true) (hst:az ea=true) (hline:(apos.endLine==pos.line)=true) (ho:EX B c Sp gv o eo) (ha:EX B c Sp gv a ea):
  EX B c Sp gv (.append o a) (.Call (.Attribute eo "append" apos) [ea] [] pos):=by
 intro m σ s K KE h S;refine Tri.meth hb (eE hst) (by show 1<30;decide) hline ho h S fun v d J M0 M3 M6 r ⟨g,k⟩=>?_;rcases mq g with ⟨a',xs,rfl,e⟩|⟨a',b,rfl,e⟩
 ·refine aZ (iR M3 e) fun vs n h0 r0 l0=>?_;cases r.inv;refine⟨_,_,fun q=>lE h0 F.slot_list_append F.type_list_append q,Tri.call1 hc hst ha k M3 fun w M5 M2 M8 M7 MM MR MP=>?_⟩;refine av fun gP gO=>?_;refine aj (je MP) fun xs' e' MP=>?_;refine gO ?_;exact(zI hc M7 MR e' MP.1 MP.2).up
 ·refine sO (lk M3.hr e) fun bs h0 e1 e2 e3=>?_;cases r.inv;refine⟨_,_,fun q=>tK h0 BF.iH BF.ux q,Tri.call1 hc hst ha k M3 fun w M5 M2 M8 M7 MM MR MP=>?_⟩;refine av fun gP gO=>?_;refine aj (ji MP) fun b' e' MP=>?_;refine aj (cJ MP) fun i z1_ N0=>?_;subst z1_;refine gO ?_;exact sH hc M7 MR e' N0.1.1 N0.1.2.1 N0.1.2.2 N0.2
theorem zh (hc:c.Ok B) (hh:c.hd=true) (hb:bg eo=true) (hst:az ea=true) (hline:(apos.endLine==pos.line)=true) (ho:EX B c Sp gv o eo) (ha:EX B c Sp gv a ea):
  EX B c Sp gv (.extend o a) (.Call (.Attribute eo "extend" apos) [ea] [] pos):=by
 intro m σ s K KE h S;refine Tri.meth hb (eE hst) (by show 1<30;decide) hline ho h S fun v d J M0 M3 M6 r ⟨g,k⟩=>?_;rcases mq g with ⟨a',xs,rfl,e⟩|⟨a',b,rfl,e⟩
 ·refine aZ (iR M3 e) fun vs n h0 r0 l0=>?_;cases r.inv;refine⟨_,_,fun q=>lE h0 F.slot_list_extend F.type_list_extend q,Tri.call1 hc hst ha k M3 fun w M5 M2 M8 M7 MM MR MP=>?_⟩;refine av fun gP gO=>?_;refine aj (je MP) fun xs' e' MP=>?_;refine aj (CH MP) fun ys z1_ N0=>?_;subst z1_;refine gO ?_;exact(zg hc M7 MR e' N0.1 N0.2).up
 ·refine sO (lk M3.hr e) fun bs h0 e1 e2 e3=>?_;cases r.inv;exact⟨_,_,fun q=>tK h0 BF.eH BF.uw q,Tri.call1 hc hst ha k M3 fun w M5 M2 M8 M7 MM MR MP=>Gm hc hh M7 MR MP⟩
set_option tactic.hygienic true in
theorem JT (hc:c.Ok B) (hb:bg eo=true) (hline:(apos.endLine==pos.line)=true) (ho:EX B c Sp gv o eo):
  EX B c Sp gv (.pop o) (.Call (.Attribute eo "pop" apos) [] [] pos):=by
 intro m σ s K KE h S;refine Tri.meth hb rfl (by decide) hline ho h S fun v d J M0 M3 M6 r k=>?_;cases d<;>try exact False.elim k
 rename_i a'
 refine aj (je k) fun xs e k=>?_;refine aZ (iR M3 e) fun vs n h0 r0 l0=>?_;cases r.inv;refine⟨_,_,fun q=>lE h0 F.slot_list_pop F.type_list_pop q,Tri.call0 hc M3 fun M2 M8 q2 M7 MM=>?_⟩;subst q2;cases hg:xs.getLast? with
 |none=>rw[hg] at k;exact False.elim k
 |some d'=>rw[hg] at k;exact(Jp hc M7 e hg k).up
theorem Ds (hc:c.Ok B) (hb:bg eo=true) (hline:(apos.endLine==pos.line)=true) (ho:EX B c Sp gv o eo):
  EX B c Sp gv (.lower o) (.Call (.Attribute eo "lower" apos) [] [] pos):=by
 intro m σ s K KE h S;refine Tri.meth hb rfl (by decide) hline ho h S fun v d J M0 M3 M6 r k=>?_;refine aj (gy k) fun k' z1_ k=>?_;subst z1_;refine dU r.inv fun x t z2_ _=>?_;subst z2_;refine⟨_,_,fun q=>ky F.slot_str_lower F.type_str_lower q,Tri.call0 hc M3 fun M2 M8 q2 M7 MM=>?_⟩;subst q2;exact(CJ M7 (MM.rv hc r) k.1 k.2).up
theorem Dp (hc:c.Ok B) (hb:bg eo=true) (hst:az ea=true) (hline:(apos.endLine==pos.line)=true) (ho:EX B c Sp gv o eo) (ha:EX B c Sp gv a ea):
  EX B c Sp gv (.split o a) (.Call (.Attribute eo "split" apos) [ea] [] pos):=by
 intro m σ s K KE h S;refine Tri.meth hb (eE hst) (by show 1<30;decide) hline ho h S fun v d J M0 M3 M6 r ⟨g,k⟩=>?_;refine ar (lK g) fun xx z1_=>?_;subst z1_;refine dU r.inv fun x t z2_ _=>?_;subst z2_;refine⟨_,_,fun q=>ky I1 F.type_str_split q,Tri.call1 hc hst ha k M3 fun w M5 M2 M8 M7 MM MR MP=>?_⟩;refine aj (gy MP) fun k' z1_ MP=>?_;subst z1_;exact(BW hc M7 (MM.rv hc r) MR MP.1 MP.2).up
theorem Dt (hc:c.Ok B) (hb:bg eo=true) (hst:az ea=true) (hline:(apos.endLine==pos.line)=true) (ho:EX B c Sp gv o eo) (ha:EX B c Sp gv a ea):
  EX B c Sp gv (.index o a) (.Call (.Attribute eo "index" apos) [ea] [] pos):=by
 intro m σ s K KE h S;refine Tri.meth hb (eE hst) (by show 1<30;decide) hline ho h S fun v d J M0 M3 M6 r ⟨g,k⟩=>?_;refine ar (lK g) fun xx z1_=>?_;subst z1_;refine dU r.inv fun x t z2_ _=>?_;subst z2_;refine⟨_,_,fun q=>ky F.slot_str_index F.type_str_index q,Tri.call1 hc hst ha k M3 fun w M5 M2 M8 M7 MM MR MP=>?_⟩;refine aj (gy MP) fun k' z1_ MP=>?_;subst z1_;exact(Dd M7 (MM.rv hc r) MR MP.1 MP.2).up
end
def Alt (B:Bs) (o:Obj) (x:Option Obj):Prop:=x=some o∨(o.cls= .ref (B.ca 3)∧∃vs vs',o.data= .fields vs∧x=some {o with data:=.fields vs'})∨((∃T,o.cls= .type T)∧∃vs,o.data= .fields vs)
theorem Alt.of_ne {B:Bs} {o:Obj} {x:Option Obj} (h:Alt B o x) (n:∀vs,o.data≠ .fields vs):x=some o:=by
 rcases h with h|⟨-,vs,vs',h,-⟩|⟨-,vs,h⟩
 ·exact h
 ·exact absurd h (n vs)
 ·exact absurd h (n vs)
theorem AK {B:Bs} {h h':Heap} {d:Addr} {mm:PySem.Str→Option Value} (x:h.Ns d mm) (k:∀o,h.get? d=some o→Alt B o (h'.get? d)):h'.Ns d mm:=by
 refine av fun gP gO=>?_;refine eB x fun o es ep ho hd r=>?_;refine gO ?_;exact⟨o,es,ep,(k o ho).of_ne (fun vs z=>by rw[hd] at z;cases z),hd,r⟩
theorem Alt.exc {B:Bs} {P:Addr→Prop} {h':Heap} {e d:Addr} {o:Obj} {mm:PySem.Str→Option Value} {row col:Int} {t u:Tok} (k:Alt B o (h'.get? e)) (c:o.cls= .ref (B.ca 3)) (hd:o.dict=some d) (l:∃vs,o.data= .fields vs) (p:P e) (q:P d) (n:h'.Ns d mm) (r:mm (aq 2)=some (.int row t)) (s:mm (aq 3)=some (.int col u)):Rv B P h' (.ref e) (.exc row col):=by
 rcases k with h|⟨-,vs,vs',h1,h2⟩|⟨⟨T,h1⟩,-⟩
 ·exact .exc h c hd l p q n r s
 ·exact .exc h2 c hd ⟨_,rfl⟩ p q n r s
 ·rw[c] at h1;exact nomatch h1
theorem Rv.alt {B:Bs} {P:Addr→Prop} {h h':Heap} (k:∀a o,P a→h.get? a=some o→Alt B o (h'.get? a)) {v:Value} {d:V} (r:Rv B P h v d):Rv B P h' v d:=
 have nf {a:Addr} {o:Obj} (p:P a) (e:h.get? a=some o) (n:∀vs,o.data≠ .fields vs):h'.get? a=some o:=(k _ _ p e).of_ne n
 Rv.rec (motive_1:=fun v d _=>Rv B P h' v d) (motive_2:=fun vs ds _=>Rvs B P h' vs ds) .unb .none .bool .int .str .bytes
  (fun e p _ l r=>.tup (nf p e (fun _=>Data.noConfusion)) p r l) (fun e p _ l r=>.lst (nf p e (fun _=>Data.noConfusion)) p r l) .lref .bref
  (fun lt e c d l p=>.obj lt (nf p e fun _ z=>by rw[l] at z;cases z) c d l p)
  (fun lt e c d l p q n f _ r=>.fobj lt (nf p e fun _ z=>by rw[l] at z;cases z) c d l p q (AK n fun o ho=>k _ _ q ho) f r)
  (fun e c d l p q n r s=>(k _ _ p e).exc c d l p q (AK n fun o ho=>k _ _ q ho) r s) .nil (fun _ _ a r=>.cons a r) r
theorem Rvs.alt {B:Bs} {P:Addr→Prop} {h h':Heap} (k:∀a o,P a→h.get? a=some o→Alt B o (h'.get? a)) {vs:List Value} {ds:List V} (r:Rvs B P h vs ds):Rvs B P h' vs ds:=
 r.ind .nil fun a _ r=>.cons (a.alt k) r
section
variable {α β:Type} {KE:Ke}
structure Bump (B:Bs) (L F:Addr→Prop) (σ:Sto) (h h':Heap):Prop where
 p:∀a o,Pr σ F a→h.get? a=some o→Alt B o (h'.get? a)
 w:∀a o,σ a≠none→h.get? a=some o→h'.get? a=some o
 f:∀a o,F a→h.get? a=some o→∃sl,h'.get? a=some {o with slots:=sl}
 g:∀a o,¬L a→F a→h.get? a=some o→h'.get? a=some o
theorem RO.alt {P:Addr→Prop} {h h':Heap} (k:∀a o,P a→h.get? a=some o→Alt B o (h'.get? a)) {a:Addr} (ka:∀o,h.get? a=some o→h'.get? a=some o):∀{ob:AObj},RO B P h a ob→RO B P h' a ob:=by
 intro ob r
 induction ob with
 |list xs=>
  refine aZ r fun vs n h0 r l=>?_;exact⟨vs,n,ka _ h0,r.alt k,l⟩
 |barr b=>
  refine aj r fun bs h0 e=>?_;exact⟨bs,ka _ h0,e⟩
 |dict fs=>
  refine mW r fun mm vals n f r u=>?_;exact⟨mm,vals,n.at ka,f,fun i=>(r i).alt k,u⟩
theorem HR.bump {L F:Addr→Prop} {h h':Heap} (H:HR B F σ h) (b:Bump B L F σ h h'):HR B F σ h':=
 ⟨fun a x e=>(H.ob a x e).alt b.p fun o ho=>b.w a o (by rw[e];exact fun z=>nomatch z) ho,H.priv,H.new⟩
theorem St.bump (hc:c.Ok B) (S:St B c m σ s) {h':Heap} (b:Bump B c.sl c.F σ s.heap h') (hs:∀a o,B.base.get? a=some o→h'.get? a=some o) (he:Ev (fun a=>c.M4 a≠none) c.NA c.MW.heap h'):St B c m σ {s with heap:=h'}:=by
 refine⟨⟨?_,fun y hy e a ha=>?_⟩,S.hr.bump b,fun a f=>⟨?_,(S.fal a f).2⟩,hs,?_,he,S.nd,S.same⟩
 ·refine aj S.loc.1 fun mm hn k=>?_;exact⟨mm,nV hn fun o ho=>b.f _ o (hc.ownF _ hc.ownL) ho,fun y hy e=>(k y hy e).imp id fun⟨v,q,r⟩=>⟨v,q,r.alt b.p⟩⟩
 ·refine av fun gP gO=>?_;refine aj (S.loc.2 y hy e a ha) fun ov hcell k=>?_;obtain⟨-,a',ha',ho,-⟩:=hc.vcell y hy e;have:a=a':=c7 (ha.symm.trans ha');subst this;refine gO ?_;exact⟨ov,gX hcell fun o h=>b.f _ o ho h,k.imp id fun⟨v,q,r⟩=>⟨v,q,r.alt b.p⟩⟩
 ·refine ar (d9.mp (S.fal a f).1) fun o ho=>?_;refine ar (b.f a o f ho) fun sl h=>?_;rw[h];rfl
 ·exact cA S.ff fun env he L hL o e=>b.f L o (hc.priv env he L hL) e
theorem kf {h:Heap} {e:Addr} {oe:Obj} {vs vs':Array Value} (he:h.get? e=some oe) (hd:oe.data= .fields vs) (f:Array Value→Array Value) (hf:f vs=vs'):
  (h.update e (Obj.mapFields f)).get? e=some {oe with data:=.fields vs'}:=by
 have h1:=C8 (Obj.mapFields f) he (Obj.isFreed_of_fields (Obj.data_mapFields hd f));refine er h1 ?_;obtain⟨c,d,dt,sl⟩:=oe;subst hd;subst hf;rfl
structure Now (B:Bs) (c:FC) (σ:Sto) (MN h:Heap) (e:Addr) (row col:Int) (h':Heap):Prop where
 bump:Bump B c.sl c.F σ h h'
 old:∀a o,MN.get? a=some o→¬c.sl a→h.get? a=some o→h'.get? a=some o
 alive:∀a,(h.get? a).isSome=true→(h'.get? a).isSome=true
 ex:Ex B (Pr σ c.F) MN h' e row col
end
theorem Alt.trans {B:Bs} {o:Obj} {x y:Option Obj} (a:Alt B o x) (b:∀o',x=some o'→Alt B o' y):Alt B o y:=by
 rcases a with rfl|⟨h1,vs,vs',h2,rfl⟩|h
 ·exact b o rfl
 ·rcases b _ rfl with rfl|⟨g1,ws,ws',g2,rfl⟩|⟨g1,-⟩
  ·exact .inr (.inl ⟨h1,vs,vs',h2,rfl⟩)
  ·exact .inr (.inl ⟨h1,vs,ws',h2,rfl⟩)
  ·refine ar g1 fun T g1=>?_;rw[h1] at g1;cases g1
 ·exact .inr (.inr h)
section
variable {α β:Type} {KE:Ke} {E:Value→Shared→Prop}
theorem Bump.trans {L F:Addr→Prop} {h MO MY:Heap} (a:Bump B L F σ h MO) (b:Bump B L F σ MO MY):Bump B L F σ h MY:=by
 refine⟨fun x o p e=>(a.p x o p e).trans fun o' e'=>b.p x o' p e',fun x o z e=>b.w x o z (a.w x o z e),fun x o f e=>?_,fun x o l f e=>b.g x o l f (a.g x o l f e)⟩;refine ar (a.f x o f e) fun sl h1=>?_;refine ar (b.f x _ f h1) fun sl' h2=>?_;exact⟨sl',h2⟩
theorem Bump.refl (L F:Addr→Prop) (h:Heap):Bump B L F σ h h:=⟨fun _ _ _ e=>.inl e,fun _ _ _ e=>e,fun _ o _ e=>⟨o.slots,e⟩,fun _ _ _ _ e=>e⟩
theorem Now.trans {MN h MO MY:Heap} {e:Addr} {row col:Int} (a:Now B c σ MN h e row col MO) (b:Now B c σ MN MO e row col MY):Now B c σ MN h e row col MY:=
 ⟨a.bump.trans b.bump,fun x o q f y=>b.old x o q f (a.old x o q f y),fun x q=>b.alive x (a.alive x q),b.ex⟩
theorem Now.refl {MN h:Heap} {e:Addr} {row col:Int} (x:Ex B (Pr σ c.F) MN h e row col):Now B c σ MN h e row col h:=⟨.refl ..,fun _ _ _ _ y=>y,fun _ q=>q,x⟩
theorem oK {MN h:Heap} {e T:Addr} {oe oT:Obj} {vs ts:Array Value} {d:Addr} {mm:PySem.Str→Option Value} {row col:Int} {t u:Tok} {x:Value}
  (a1:h.get? e=some oe) (a2:oe.cls= .ref (B.ca 3)) (a3:oe.data= .fields vs) (a4:4<vs.size) (a5:oe.dict=some d) (a6:h.Ns d mm) (a7:mm (aq 2)=some (.int row t)) (a8:mm (aq 3)=some (.int col u))
  (a9:Pr σ c.F e) (a10:Pr σ c.F d) (a11:MN.get? e=none) (a12:MN.get? d=none) (b1:vs[1]?=some (.ref T)) (b2:h.get? T=some oT) (b3:oT.data= .fields ts) (b4:3<ts.size) (b5:T≠e) (b6:Pr σ c.F T) (b7:MN.get? T=none) (b8:oT.cls= .type "traceback"):
  Now B c σ MN h e row col (h.update T (Obj.mapFields (·.setIfInBounds 3 x))):=by
 have oth:∀b,b≠T→(h.update T (Obj.mapFields (·.setIfInBounds 3 x))).get? b=h.get? b:=fun b hb=>r4 _ _ (v8 hb);refine⟨⟨fun a o p q=>?_,fun a o z q=>?_,fun a o f q=>?_,fun a o l f q=>(oth a fun w=>b6.2 (w▸f)).trans q⟩,fun a o z f q=>?_,fun a q=>?_,?_⟩
 ·by_cases w:a=T
  ·subst w;rw[b2] at q;cases q;exact .inr (.inr ⟨⟨_,b8⟩,ts,b3⟩)
  ·exact .inl ((oth a w).trans q)
 ·exact(oth a fun w=>z (by rw[w];exact b6.1)).trans q
 ·exact⟨o.slots,(oth a fun w=>b6.2 (w▸f)).trans q⟩
 ·exact(oth a fun w=>by rw[w,b7] at z;cases z).trans q
 ·by_cases w:a=T
  ·rw[w,(kf b2 b3 (·.setIfInBounds 3 x) rfl)];rfl
  ·rw[oth a w];exact q
 ·refine⟨oe,vs,d,mm,t,u,(oth e (v8 b5)).trans a1,a2,a3,a4,a5,jI a6 fun o ho=>?_,a7,a8,a9,a10,a11,a12,.inr ⟨T,_,_,b1,(kf b2 b3 (·.setIfInBounds 3 x) rfl),rfl,by simpa using b4,b5,b6,b7,b8⟩⟩;refine(oth d fun w=>?_).trans ho;refine eB a6 fun o' es ep ho' hd' _=>?_;rw[w,b2] at ho';cases ho';rw[b3] at hd';cases hd'
def nN (h:Heap) (e:Addr):Prop:=∃oe vs T,h.get? e=some oe∧oe.data= .fields vs∧vs[1]?=some (.ref T)
theorem tW (hc:c.Ok B) {MN:Heap} {e L:Addr} {row col:Int} {head:Value} {hadNext:Bool} {Q:Unit→Shared→Prop} (H:HR B c.F σ s.heap) (hff:s.heap.FunFrames B.base (c.fenv::c.outer)) (hal:∀a,c.F a→(s.heap.get? a).isSome=true) (hL:c.fenv.frame=some L)
  (hold:∀a,(MN.get? a).isSome=true→(s.heap.get? a).isSome=true) (X:Ex B (Pr σ c.F) MN s.heap e row col) (h:∀h',Now B c σ MN s.heap e row col h'→nN h' e→Q () {s with heap:=h'}):
  wpAny (model B.prog B.w) c.A (PySem.frameOf c.fenv>>=fun a=>entryPlaceOf L hadNext>>=fun pl=>EntryCells.newEntry head a .none (rawInt L) .none pl>>=fun b=>setField (.ref e) 1 b) Q E s:=by
 obtain⟨oe,vs,d,mm,t,u,a1,a2,a3,a4,a5,a6,a7,a8,a9,a10,a11,a12,a13⟩:=X;refine c5 (wpAny_frameOf_fun hc.frames hff hL fun MO Nm=>?_);refine c5 (wpAny_entryPlaceOf fun pl hpl=>?_);refine c5 (y5 ?_ (hpl.sizeOk5 _ _ _ _ _));have inF:∀a,a∈(c.fenv::c.outer).filterMap (·.frame)→c.F a:=fun a ha=>by
  refine aj (List.mem_filterMap.mp ha) fun env he hf=>?_;exact hc.priv env he a hf
 have keepL:∀a o,¬c.sl a→s.heap.get? a=some o→MO.get? a=some o:=fun a o f q=>(Nm.2.1 a fun z=>f (by
  refine aj (List.mem_filterMap.mp z) fun env he hf=>?_;exact⟨env,he,hf⟩)).trans q
 have keep:∀a o,¬c.F a→s.heap.get? a=some o→MO.get? a=some o:=fun a o f q=>(Nm.2.1 a fun z=>f (inF a z)).trans q;have N8:=keep e oe a9.2 a1;have NK:=f5 (h:=MO) {cls:=.type "traceback",dict:=none,data:=.fields ([head,.ref L,.none,rawInt L,.none]++(if pl.isEmpty then List.replicate 6 Value.none else pl)).toArray} N8;have hTs:s.heap.get? MO.objs.size=none:=by
  cases q:s.heap.get? MO.objs.size with
  |none=>rfl
  |some o=>
   refine ar (Nm.2.2 _ o q) fun sl z=>?_;rw[(bQ MO)] at z;exact noS z
 refine wpAny_setField NK a3 (by lia) ((fun w t=>h _ t w) ?_ ?_)
 ·refine⟨_,_,MO.objs.size,kf NK a3 (·.setIfInBounds 1 (Value.ref MO.objs.size)) rfl,rfl,?_⟩;have:1<vs.size:=by lia
  simp[this]
 have NJ:=kf NK a3 (·.setIfInBounds 1 (Value.ref MO.objs.size)) rfl;have oth:∀b,b≠e→∀o,MO.get? b=some o→((MO.push {cls:=.type "traceback",dict:=none,data:=.fields ([head,.ref L,.none,rawInt L,.none]++(if pl.isEmpty then List.replicate 6 Value.none else pl)).toArray}).update e (Obj.mapFields (·.setIfInBounds 1 (Value.ref MO.objs.size)))).get? b=some o:=
  fun b hb o q=>(r4 _ _ (v8 hb)).trans (f5 _ q)
 have Oi:=(r4 (MO.push {cls:=.type "traceback",dict:=none,data:=.fields ([head,.ref L,.none,rawInt L,.none]++(if pl.isEmpty then List.replicate 6 Value.none else pl)).toArray})
  (Obj.mapFields (·.setIfInBounds 1 (Value.ref MO.objs.size))) (v8 (K0 (o6 N8)))).trans (i2 MO rfl)
 refine⟨⟨fun a o p q=>?_,fun a o z q=>?_,fun a o f q=>?_,fun a o l f q=>oth a (fun w=>a9.2 (w▸f)) o (keepL a o l q)⟩,fun a o z f q=>?_,fun a q=>?_,?_⟩
 ·by_cases w:a=e
  ·subst w;rw[a1] at q;cases q;exact .inr (.inl ⟨a2,vs,_,a3,NJ⟩)
  ·exact .inl (oth a w o (keep a o p.2 q))
 ·exact oth a (fun w=>z (by rw[w];exact a9.1)) o (keep a o (H.priv a z) q)
 ·refine ar (Nm.2.2 a o q) fun sl z=>?_;exact⟨sl,oth a (fun w=>a9.2 (w▸f)) _ z⟩
 ·exact oth a (fun w=>by rw[w,a11] at z;cases z) o (keepL a o f q)
 ·by_cases w:a=e
  ·rw[w,NJ];rfl
  ·refine ar (d9.mp q) fun o ho=>?_;refine ar (Nm.2.2 a o ho) fun sl z=>?_;rw[oth a w _ z];rfl
 ·refine⟨_,_,d,mm,t,u,NJ,a2,rfl,by simpa using a4,a5,jI a6 fun o ho=>?_,a7,a8,a9,a10,a11,a12,.inr ⟨MO.objs.size,_,_,?_,Oi,rfl,?_,(K0 (o6 N8)),⟨H.dead hTs,fun z=>?_⟩,?_,rfl⟩⟩
  ·refine oth d (fun w=>?_) o (keep d o a10.2 ho);refine eB a6 fun o' es ep ho' hd' _=>?_;rw[w,a1] at ho';cases ho';rw[a3] at hd';cases hd'
  ·have:1<vs.size:=by lia
   simp[this]
  ·simp only[k9,b0,c6,E9];lia
  ·exact bJ (hal _ z) hTs
  ·cases q:MN.get? MO.objs.size with
   |none=>rfl
   |some o=>exact(bJ (hold _ (by rw[q];rfl)) hTs).elim
theorem wm (hff:s.heap.FunFrames B.base (c.fenv::c.outer)):∃L,c.fenv.frame=some L:=by
 refine av fun gP gO=>?_;refine cQ hff fun _ z1_ _=>?_;obtain⟨L,o,hf,-⟩:=z1_;refine gO ?_;exact⟨L,hf⟩
theorem FK (hc:c.Ok B) {MN:Heap} {e:Addr} {row col:Int} {Q:Unit→Shared→Prop} (S:St B c m σ s) (hold:∀a,(MN.get? a).isSome=true→(s.heap.get? a).isSome=true) (X:Ex B (Pr σ c.F) MN s.heap e row col)
  (h:∀h',Now B c σ MN s.heap e row col h'→nN h' e→Q () {s with heap:=h'}):wpAny (model B.prog B.w) c.A (noteFrame (.ref e) c.env) Q E s:=by
 refine ar (wm (c:=c) S.ff) fun L hL=>?_;have hfr:PySem.frameOf c.env=PySem.frameOf c.fenv:=by unfold PySem.frameOf;rw[hc.frame]
 have X':=X;obtain⟨oe,vs,d,mm,t,u,a1,a2,a3,a4,a5,a6,a7,a8,a9,a10,a11,a12,a13⟩:=X;unfold noteFrame;refine er hc.frame (er hL (er hfr ?_));rcases a13 with b1|⟨T,oT,ts,b1,b2,b3,b4,b5,b6,b7,b8⟩
 ·refine c5 (B0 a1 a3 b1 ?_);exact tW hc S.hr S.ff (fun a f=>(S.fal a f).1) hL hold X' h
 ·refine c5 (B0 a1 a3 b1 ?_);refine c5 (B0 b2 b3 (Array.getElem?_eq_getElem b4) ?_)
  split
  ·exact e6 (h _ (.refl X') ⟨oe,vs,T,a1,a3,b1⟩)
  ·have N:=oK (x:=.none) a1 a2 a3 a4 a5 a6 a7 a8 a9 a10 a11 a12 b1 b2 b3 b4 b5 b6 b7 b8;refine c5 (wpAny_setField b2 b3 b4 ?_);refine tW (s:={s with heap:=_}) hc (S.hr.bump N.bump) ?_ (fun a f=>N.alive a (S.fal a f).1) hL (fun a q=>N.alive a (hold a q)) N.ex fun h' N' t'=>h h' (N.trans N') t';exact cA S.ff fun env he L hL o q=>N.bump.f L o (hc.priv env he L hL) q
end
def LA (B:Bs) (c:FC) (Kn:(Nat→V)→Sto→Prop) (Kr:Kx) (Kb Kc:(Nat→V)→Sto→Prop) (m:Nat→V) (σ:Sto) (s:Shared):Flow→Prop
 |.next=>Kn m σ
 |.ret v=>∃d,Rv B (Pr σ c.F) s.heap v d∧Kr d σ
 |.brk=>Kb m σ
 |.cont=>Kc m σ
inductive PostS (B:Bs) (c:FC) (σ:Sto) (s:Shared) (KE:(Nat→V)→Ke) (ev:Value) (s':Shared):Prop
 |mk (e:Addr) (row col:Int) (m':Nat→V) (M1:Sto) (e1:ev= .ref e) (S:St B c m' M1 s') (N:Nx c σ s M1 s') (x:Ex B (Pr M1 c.F) s.heap s'.heap e row col) (k:KE m' row col M1)
inductive PostF (B:Bs) (c:FC) (σ:Sto) (s:Shared) (Kn:(Nat→V)→Sto→Prop) (Kr:Kx) (Kb Kc:(Nat→V)→Sto→Prop) (fl:Flow) (s':Shared):Prop
 |mk (m':Nat→V) (M1:Sto) (S:St B c m' M1 s') (N:Nx c σ s M1 s') (o:LA B c Kn Kr Kb Kc m' M1 s' fl)
def cN (B:Bs) (c:FC) (t:Sem Flow) (σ:Sto) (s:Shared) (Kn:(Nat→V)→Sto→Prop) (Kr:Kx) (Kb Kc:(Nat→V)→Sto→Prop) (KE:(Nat→V)→Ke):Prop:=
 wpG (model B.prog B.w) c.A t (PostF B c σ s Kn Kr Kb Kc) (PostS B c σ s KE) s
section
variable {α β:Type} {Kn:(Nat→V)→Sto→Prop} {Kr:Kx} {Kb Kc:(Nat→V)→Sto→Prop} {KE:(Nat→V)→Ke} {P:α→Sto→Shared→Prop}
theorem PostE.postS {ev:Value} {s':Shared} (x:PostE B c m σ s (KE m) ev s'):PostS B c σ s KE ev s':=by
 obtain⟨e,row,col,M1,h1,h2,h3,h4,h5⟩:=x;exact⟨e,row,col,m,M1,h1,h2,h3.nx,h4,h5⟩
theorem PostS.sooner {ev:Value} {s':Shared} (n:Nx c σ s J M0) (x:PostS B c J M0 KE ev s'):PostS B c σ s KE ev s':=by
 obtain⟨e,row,col,m',M1,h1,h2,h3,h4,h5⟩:=x;exact⟨e,row,col,m',M1,h1,h2,n.trans h3,h4.sooner n.ev.alive,h5⟩
theorem Tri.thenS {t:Sem α} {f:α→Sem Flow} (h:Tri B c t m σ s P (KE m)) (k:∀a J M0,St B c m J M0→Nq c σ s J M0→P a J M0→cN B c (f a) J M0 Kn Kr Kb Kc KE):cN B c (t>>=f) σ s Kn Kr Kb Kc KE:=by
 refine aa (aJ h (fun a M0 ⟨J,M3,M6,p⟩=>?_) fun _ _ e=>e.postS);exact aJ (k a J M0 M3 M6 p) (fun fl M8 ⟨m',M2,M7,MM,q⟩=>⟨m',M2,M7,M6.nx.trans MM,q⟩) fun _ _ e=>e.sooner M6.nx
theorem cN.stand {pos:Pos} {f:Unit→Sem Flow} (h:cN B c (f ()) σ s Kn Kr Kb Kc KE):cN B c (standAt pos>>=f) σ s Kn Kr Kb Kc KE:=aa (aR h)
theorem cN.later {t:Sem Flow} (n:Nx c σ s J M0) (h:cN B c t J M0 Kn Kr Kb Kc KE):wpG (model B.prog B.w) c.A t (PostF B c σ s Kn Kr Kb Kc) (PostS B c σ s KE) M0:=
 aJ h (fun fl M8 ⟨m',M2,M7,MM,q⟩=>⟨m',M2,M7,n.trans MM,q⟩) fun _ _ e=>e.sooner n
theorem cN.seq {a b:Sem Flow} {Kn':(Nat→V)→Sto→Prop} (h:cN B c a σ s Kn' Kr Kb Kc KE) (k:∀m' J M0,St B c m' J M0→Nx c σ s J M0→Kn' m' J→cN B c b J M0 Kn Kr Kb Kc KE):
  cN B c (a>>=fun f=>match f with|.next=>b|f=>pure f) σ s Kn Kr Kb Kc KE:=by
 refine aa (aJ h (fun f M0 ⟨m',J,M3,M6,p⟩=>?_) fun _ _ e=>e)
 induction f with
 |next=>exact(k m' J M0 M3 M6 p).later M6
 |brk=>exact ac ⟨m',J,M3,M6,p⟩
 |cont=>exact ac ⟨m',J,M3,M6,p⟩
 |ret v=>exact ac ⟨m',J,M3,M6,p⟩
theorem jt {base h h':Heap} {l:List Env}:h.FunFrames base l→(∀env∈l,∀L,env.frame=some L→∀o,h.get? L=some o→(∀vs,o.data≠ .fields vs)→∃o',h'.get? L=some o'∧∀vs,o'.data≠ .fields vs)→h'.FunFrames base l:=by
 induction l with
 |nil=>exact fun _ _=>trivial
 |cons env l ih=>
  intro H k;refine cQ H fun hk z1_ hr=>?_;obtain⟨L,o,hf,hn,ho,hd⟩:=z1_;refine aj (k env (.head _) L hf o ho hd) fun o' e d=>?_;exact⟨hk,⟨L,o',hf,hn,e,d⟩,ih hr fun e he=>k e (.tail _ he)⟩
theorem St.own (hc:c.Ok B) (S:St B c m σ s) {a:Addr} (ha:c.own a) {h':Heap} {ob ob':Obj} (h0:s.heap.get? a=some ob) (h1:h'.get? a=some ob') (hd:∀vs,ob'.data≠ .fields vs) (hs:Heap.SameBut a s.heap h') {m':Nat→V} (k:Nat) (hl:Loc B c m' σ h'):
  St B c m' σ {s with heap:=h',toks:=k}∧Nx c σ s σ {s with heap:=h',toks:=k}:=by
 have keep:∀b o,¬c.F b→s.heap.get? b=some o→h'.get? b=some o:=fun b o f q=>(hs.2 b fun z=>f (z▸(hc.ownF a ha))).trans q;have alive:∀b,(s.heap.get? b).isSome=true→(h'.get? b).isSome=true:=fun b q=>by
  by_cases z:b=a
  ·rw[z,h1];rfl
  ·rw[hs.2 b z];exact q
 have N:Nx c σ s σ {s with heap:=h',toks:=k}:=⟨.sameBut hs h0 h1 (.inr ha),fun _ h=>.inl h,⟨rfl,rfl,rfl⟩⟩;refine⟨⟨hl,⟨fun b x e=>?_,S.hr.priv,S.hr.new⟩,fun b f=>⟨alive b (S.fal b f).1,(S.fal b f).2⟩,fun b o e=>?_,?_,?_,S.nd,S.same⟩,N⟩
 ·exact(S.hr.ob b x e).keep (fun y o p q=>⟨p,keep y o p.2 q⟩) fun o q=>keep b o (S.hr.priv b (e▸(fun z=>nomatch z))) q
 ·exact keep b o (fun z=>by have:=(S.fal b z).2;rw[e] at this;cases this) (S.stays b o e)
 ·refine jt S.ff fun env he L hL o q d=>?_;by_cases z:L=a
  ·subst z;exact⟨ob',h1,hd⟩
  ·exact⟨o,(hs.2 L z).trans q,d⟩
 ·refine⟨fun b o e w f=>?_,fun b o e w f=>?_,fun b e=>alive b (S.ev.alive b e)⟩
  ·refine(hs.2 b fun z=>?_).trans (S.ev.same b o e w f);subst z;have:=hc.ownNew _ ha;rw[e] at this;exact noS this.symm
  ·refine ar (S.ev.slots b o e w f) fun sl q=>?_;refine⟨sl,(hs.2 b fun z=>?_).trans q⟩;subst z;have:=hc.ownNew _ ha;rw[e] at this;exact noS this.symm
theorem lB (hc:c.Ok B) {i:Nat} {id:PySem.Str} {cl:Bool} (hx:(i,id,cl)∈c.vars) (hck:cl=true→c.ck id) (S:St B c m σ s) {v:Value} {d:V} (r:Rv B (Pr σ c.F) s.heap v d) {Q:Unit→Shared→Prop} {E:Value→Shared→Prop}
  (h:∀s',St B c (upd m i d) σ s'→Nx c σ s σ s'→(cl=false→∀b,b≠c.env.locals→s'.heap.get? b=s.heap.get? b)→Q () s'):wpAny (model B.prog B.w) c.A (bindName c.env id v) Q E s:=by
 refine wpAny_bindName ?_;have keep:∀{a:Addr} {h':Heap},c.own a→Heap.SameBut a s.heap h'→∀b o,Pr σ c.F b→s.heap.get? b=some o→Pr σ c.F b∧h'.get? b=some o:=fun ha hs b o p q=>⟨p,(hs.2 b fun z=>p.2 (z▸hc.ownF _ ha)).trans q⟩
 induction cl with
 |false=>
  refine aj S.loc.1 fun mm hn k=>?_;refine wpAny_storeName_local (hc.vloc _ hx rfl) hn (fun h' hns hs=>?_) (by rw[hc.kind];rfl);have hn0:=hn;have hns0:=hns;refine eB hn0 fun ob es ep hob hod _=>?_;refine eB hns0 fun ob' es' ep' hob' hod' _=>?_;have hl:Loc B c (upd m i d) σ h':=by
   refine⟨⟨_,hns,fun y hy e=>?_⟩,fun y hy e a ha=>?_⟩
   ·by_cases z:y.1=i
    ·have:=hc.inj y hy _ hx z;subst this;right;rw[cV];exact⟨v,i7 rfl,r.keep (keep hc.ownL hs)⟩
    ·refine er (dD m d z) ?_;refine(k y hy e).imp (fun q=>q) fun⟨w,q,rw'⟩=>⟨w,?_,rw'.keep (keep hc.ownL hs)⟩;refine er (i3 fun w=>z (by have:=hc.injn y hy _ hx w;rw[this])) ?_;exact q
   ·refine aj (S.loc.2 y hy e a ha) fun ov hcell kk=>?_;refine er (dD m d (fun w=>by have:=hc.inj y hy _ hx w;subst this;exact noT e)) ?_;have ne:=hc.cellL y hy a e ha;refine aj hcell fun o ho hd=>?_;exact⟨ov,⟨o,(hs.2 a ne).trans ho,hd⟩,kk.imp (fun q=>q) fun⟨w,q,rw'⟩=>⟨w,q,rw'.keep (keep hc.ownL hs)⟩⟩
  have q7:=S.own hc hc.ownL hob hob' (fun vs z=>by rw[hod'] at z;cases z) hs (s.toks+1) hl;exact h _ q7.1 q7.2 fun _ b ne=>hs.2 b ne
 |true=>
  obtain⟨-,a,ha,-,hw⟩:=hc.vcell _ hx rfl;have hao:=hw (hck rfl).2;refine aj (S.loc.2 _ hx rfl a ha) fun ov hcell _=>?_;refine wpAny_storeName_cell hc.kind (hck rfl).1 ha hcell fun h' hc' hs=>?_;refine av fun gP gO=>?_;have hcell0:=hcell;have hc0:=hc';refine aj hcell0 fun ob hob hod=>?_;refine aj hc0 fun ob' hob' hod'=>?_;have hl:Loc B c (upd m i d) σ h':=by
   refine⟨?_,fun y hy e b hb=>?_⟩
   ·refine aj S.loc.1 fun mm hn k=>?_;refine⟨mm,hn.sameBut hs (fun z=>hc.cellL _ hx a rfl ha z.symm),fun y hy e=>?_⟩;exact(dD m d (fun w=>by have:=hc.inj y hy _ hx w;subst this;cases e))▸((k y hy e).imp (fun q=>q) fun⟨w,q,rw'⟩=>⟨w,q,rw'.keep (keep hao hs)⟩)
   ·by_cases z:y.1=i
    ·have:=hc.inj y hy _ hx z;subst this;have:b=a:=c7 (hb.symm.trans ha);subst this;rw[cV];exact⟨some v,hc',.inr ⟨v,rfl,r.keep (keep hao hs)⟩⟩
    ·refine er (dD m d z) ?_;refine aj (S.loc.2 y hy e b hb) fun ov' hcell' kk=>?_;have ne:b≠a:=fun w=>z (by
      have:=hc.injc y hy _ hx e rfl (by rw[hb,ha,w]);rw[this])
     refine aj hcell' fun o ho hd=>?_;exact⟨ov',⟨o,(hs.2 b ne).trans ho,hd⟩,kk.imp (fun q=>q) fun⟨w,q,rw'⟩=>⟨w,q,rw'.keep (keep hao hs)⟩⟩
  have q7:=S.own hc hao hob hob' (fun vs z=>by rw[hod'] at z;cases z) hs s.toks hl;refine gO ?_;exact h _ q7.1 q7.2 fun z=>nomatch z
theorem ir (hc:c.Ok B) {i:Nat} {id:PySem.Str} {cl:Bool} (hx:(i,id,cl)∈c.vars) (hck:cl=true→c.ck id) (S:St B c m σ s) {v:Value} {d:V} (r:Rv B (Pr σ c.F) s.heap v d) {Q:Unit→Shared→Prop} {E:Value→Shared→Prop}
  (h:∀s',St B c (upd m i d) σ s'→Nx c σ s σ s'→Q () s'):wpAny (model B.prog B.w) c.A (bindName c.env id v) Q E s:=lB hc hx hck S r fun s' a b _=>h s' a b
end
section
variable (B:Bs) (c:FC) (Sp:Nat→aP) (gv:Nat→List Nat)
def ES1 (x:S) (st:Stmt):Prop:=∀m σ s Kn Kr Kb Kc KE,vcS Sp gv x m σ Kn Kr Kb Kc KE→St B c m σ s→cN B c (exec st c.env) σ s Kn Kr Kb Kc KE
def ES (x:S) (ss:List Stmt):Prop:=∀m σ s Kn Kr Kb Kc KE,vcS Sp gv x m σ Kn Kr Kb Kc KE→St B c m σ s→cN B c (execs ss c.env) σ s Kn Kr Kb Kc KE
end
section
variable {α β:Type} {Kn:(Nat→V)→Sto→Prop} {Kr:Kx} {Kb Kc:(Nat→V)→Sto→Prop} {KE:(Nat→V)→Ke} {P:α→Sto→Shared→Prop}
theorem cN.flow {fl:Flow} (S:St B c m σ s) (h:LA B c Kn Kr Kb Kc m σ s fl):cN B c (Pure.pure fl) σ s Kn Kr Kb Kc KE:=ac ⟨m,σ,S,.refl ..,h⟩
theorem Bg:ES B c Sp gv .skip []:=fun m σ s Kn Kr Kb Kc KE h S=>cN.flow (fl:=.next) S h
theorem GK {a b:S} {st:Stmt} {rest:List Stmt} (ha:ES1 B c Sp gv a st) (hb:ES B c Sp gv b rest):ES B c Sp gv (.seq a b) (st::rest):=by
 intro m σ s Kn Kr Kb Kc KE h S;have:=cN.seq (ha _ _ _ _ _ _ _ _ h S) (fun m' J M0 M3 M6 k=>hb _ _ _ _ _ _ _ _ k M3);exact this
set_option backward.match.sparseCases false in
noncomputable def cZ:Expr→Bool
 |.ListComp .. =>false
 |.SetComp .. =>false
 |.DictComp .. =>false
 |_=>true
theorem eZ {v:Expr} {t:Option Expr} {n:Nat} {env:Env} (h:cZ v=true):swapsWith v t n env=pure false:=by
 cases v<;>first|(cases h;done)|rfl
theorem yR (hc:c.Ok B):interactive c.env=false:=by
 unfold interactive;rw[hc.kind];rfl
theorem Jg (hc:c.Ok B) {e:X} {ee:Expr} {pos:Pos} (hn:cZ ee=true) (he:EX B c Sp gv e ee):ES1 B c Sp gv (.expr e) (.Expr ee pos):=by
 intro m σ s Kn Kr Kb Kc KE h S;refine er (PySem.exec_Expr _ _ _ (yR hc) (eZ hn)) ?_;refine cN.stand ((he _ _ _ _ _ h S).thenS fun v J M0 M3 M6 ⟨d,r,k⟩=>?_);exact wpG.any (wpAny_dropValue ⟨m,J,M3,.refl ..,k⟩)
theorem Cg (hc:c.Ok B) {e:X} {ee:Expr} {i:Nat} {id:PySem.Str} {cl:Bool} (hx:(i,id,cl)∈c.vars) (hck:cl=true→c.ck id) {np pos:Pos} (hn:cZ ee=true) (he:EX B c Sp gv e ee):ES1 B c Sp gv (.assign i e) (.Assign [.Name id np] ee pos):=by
 intro m σ s Kn Kr Kb Kc KE h S;refine er (PySem.exec_Assign_Name _ _ _ _ _ (eZ hn)) ?_;refine cN.stand ((he _ _ _ _ _ h S).thenS fun v J M0 M3 M6 ⟨d,r,k⟩=>cN.stand ?_);exact aa (wpG.any (ir hc hx hck M3 r fun s' S' N'=>ac ⟨_,J,S',N',k⟩))
theorem L9 {q:X} {a b:S} {eq:Expr} {sa sb:List Stmt} {pos:Pos} (hq:ET B c Sp gv q eq) (ha:ES B c Sp gv a sa) (hb:ES B c Sp gv b sb):ES1 B c Sp gv (.ite q a b) (.If eq sa sb pos):=by
 intro m σ s Kn Kr Kb Kc KE h S;refine cN.stand ((hq _ _ _ _ _ h S).thenS fun t J M0 M3 M6 k=>?_)
 induction t with
 |true=>exact ha _ _ _ _ _ _ _ _ k M3
 |false=>exact hb _ _ _ _ _ _ _ _ k M3
theorem L8 {e:X} {ee:Expr} {pos:Pos} (he:EX B c Sp gv e ee):ES1 B c Sp gv (.ret e) (.Return (some ee) pos):=by
 intro m σ s Kn Kr Kb Kc KE h S;exact cN.stand ((he _ _ _ _ _ h S).thenS fun v J M0 M3 M6 ⟨d,r,k⟩=>.flow M3 ⟨d,r,k⟩)
theorem Jh {pos:Pos}:ES1 B c Sp gv .cont (.Continue pos):=fun m σ s Kn Kr Kb Kc KE h S=>cN.stand (f:=fun _=>Pure.pure .cont) (.flow S h)
theorem Mb {pos:Pos}:ES1 B c Sp gv .brk (.Break pos):=fun m σ s Kn Kr Kb Kc KE h S=>cN.stand (f:=fun _=>Pure.pure .brk) (.flow S h)
theorem vm:∀{f i:Nat},f<9→i≠f→aq i≠aq f:=by
 have key:∀f<9,∀i<10,i≠f→aq i≠aq f:=by decide+kernel
 intro f i hf hi;by_cases h:i<10
 ·exact key f hf i h hi
 ·have e:aq i=aq 9:=by
   refine ar (Nat.exists_eq_add_of_le' (t8.mp h)) fun n z1_=>?_;subst z1_;rfl
  exact e▸(key f hf 9 (by decide) (K0 hf))
theorem vT {o d:V} {f:Nat} {K:Sto→Prop} (k:zN o f d σ K):∃C a fs,o= .obj C a∧d≠ .unb∧σ a=some (.dict fs)∧K (σ.put a (.dict (upd fs f d))):=by
 cases o<;>try exact False.elim k
 refine av fun gP gO=>?_;refine am (lH k) fun nu k=>?_;refine aj (lM k) fun fs e k=>?_;refine gO ?_;exact⟨_,_,fs,rfl,nu,e,k⟩
theorem RO.set {Q:Addr→Prop} {h':Heap} {dx:Addr} {fs:Nat→V} {mm:PySem.Str→Option Value} {vals:Nat→Value} {f:Nat} {v:Value} {d:V} (hf:f<9) (nu:d≠ .unb) (hns:h'.Ns1 dx (fun y=>if y=aq f then some v else mm y)) (hv:∀i,(∃z,fs i=z∧z≠ .unb)→mm (aq i)=some (vals i)) (hr:∀i,Rv B Q h' (vals i) (fs i)) (hu:∀i,i<9→fs i= .unb→mm (aq i)=none) (hw:Within mm flds) (r:Rv B Q h' v d):
  RO B Q h' dx (.dict (upd fs f d)):=by
 refine⟨_,fun i=>if i=f then v else vals i,hns,fun i hi=>?_,fun i=>?_,fun i hi hu'=>?_,fun y hy=>?_⟩
 ·by_cases z:i=f
  ·subst z;dsimp only;rw[i7 rfl,i7 rfl]
  ·rw[dD fs d z] at hi;dsimp only;rw[i3 (vm hf z),i3 z];exact hv i hi
 ·by_cases z:i=f
  ·subst z;dsimp only;rw[cV,i7 rfl];exact r
  ·dsimp only;rw[dD fs d z,i3 z];exact hr i
 ·by_cases z:i=f
  ·subst z;rw[cV] at hu';exact absurd hu' nu
  ·rw[dD fs d z] at hu';refine er (i3 (vm hf z)) ?_;exact hu i hi hu'
 ·by_cases z:y=aq f
  ·rw[z];exact r6 (B1.mpr hf)
  ·exact hw y fun q=>hy ((i3 z).trans q)
theorem Jf (hc:c.Ok B) (hK:Ks B) {v w:Value} {d o:V} {f:Nat} {K:Sto→Prop} (hf:f<9) (S:St B c m σ s) (r:Rv B (Pr σ c.F) s.heap v d) (ro:Rv B (Pr σ c.F) s.heap w o) (k:zN o f d σ K) {Q:Unit→Shared→Prop} {E:Value→Shared→Prop}
  (h:∀M1 s',St B c m M1 s'→Nq c σ s M1 s'→K M1→Q () s'):wpAny (model B.prog B.w) c.A (setAttr w (aq f) v) Q E s:=by
 refine av fun gP gO=>?_;refine eA (vT k) fun C dx fs z3_ nu e kk=>?_;subst z3_;refine El ro.inv fun x ox z2_ lt hx hcl hdx hda _=>?_;subst z2_;refine Iq (S.hr.ob dx _ e) fun mm vals hn hv hr hu hw=>?_;refine aj (jd hn.ns (aq f)) fun od hod hl=>?_;refine gO ?_;refine set_plain S.inK (⟨hx,hcl,by unfold notCls;rw[hda],by rw[hdx];exact hod⟩:InstAt s.heap x ox (B.ca C) (some od)) (hK.sattr C lt) ?_;refine osa_open (s:={s with toks:=s.toks+1}) S.inK (⟨hx,hcl,by unfold notCls;rw[hda],by rw[hdx];exact hod⟩:InstAt s.heap x ox (B.ca C) (some od)) (hK.over C lt) (hK.taker C lt f hf) fun b=>?_;refine av fun gP gO=>?_;refine aj (any_some (show(clsIn B.K (B.ca C)).any (·.hasDict)=true from hK.hasDict C (n9 lt))) fun cd hcd hd'=>?_;obtain⟨oc,odi,oda,osl⟩:=ox;dsimp only at hcl hdx hda;subst hcl;subst hdx;subst hda;refine gO ?_;refine c5 (e6 (c5 (c5 (wpAny_loadPart hx (c5 (Looks.here (s:={s with toks:=s.toks+1}) (looks_clsIn S.inK hcd) ?_))))));refine er hd' ?_;refine e6 (a:=some dx) (c5 (e6 (c5 ?_)));refine wpAny_nsSet1 (s:={s with toks:=s.toks+1}) hn fun h' hns hs=>?_;refine av fun gP gO=>?_;refine eB (hns.count (hw.cons (aq f) v)) fun oc2 es2 ep2 hoc2 hod2 hsz2=>?_;refine gO ?_;refine c5 (I0 hoc2 (by
  refine er hod2 ?_;exact pastItsLine_dict (b9 hsz2 (by rw[H4];show 10≤_;decide))) ?_)
 refine e6 ?_;have e':σ dx≠none:=by rw[e];exact E4 _
 obtain⟨ob,hob⟩:=d9.mp (dO hn.ns);obtain⟨ob',hob'⟩:=d9.mp (dO hns.ns);have N:=Nq.put_at c (o:=.dict (upd fs f d)) e' hob hob' hs (s.toks+1+1);exact h _ _ (S.put_at hc e' hob hob' hs (s.toks+1+1) (.set hf nu hns hv (fun i=>N.rv hc (hr i)) hu hw (N.rv hc r))) N kk
theorem yA (hc:c.Ok B) (hK:Ks B) {o e:X} {eo ee:Expr} {f:Nat} {ap pos:Pos} (hf:f<9) (hn:cZ ee=true) (ho:EX B c Sp gv o eo) (he:EX B c Sp gv e ee):
  ES1 B c Sp gv (.setattr o f e) (.Assign [.Attribute eo (aq f) ap] ee pos):=by
 intro m σ s Kn Kr Kb Kc KE h S;refine er (F6 _ _ _ _ _ (eZ hn)) ?_;refine cN.stand ((he _ _ _ _ _ h S).thenS fun v J M0 M3 M6 q0_=>?_);obtain⟨d,r,k⟩:=q0_;simp only[assign_Attribute];rw[bind_assoc];refine(Tri.hold (ho _ _ _ _ _ k M3)).thenS fun w M2 M8 M7 MM q0_=>?_;obtain⟨od,ro,MP⟩:=q0_;refine aa (aa (aR (aa (ay (wpG.any (Jf hc hK hf M7 (MM.rv hc r) ro MP fun ML N2 MU MT N0=>?_))))));exact me (ac ⟨m,ML,MU,MT.nx,N0⟩)
end
def mc (B:Bs) (c:FC) (σ:Sto) (s:Shared) (KE:(Nat→V)→Ke) (ev:Value) (s':Shared):Prop:=PostS B c σ s KE ev s'∧∃e,ev= .ref e∧nN s'.heap e
section
variable {α β:Type} {Kn:(Nat→V)→Sto→Prop} {Kr:Kx} {Kb Kc:(Nat→V)→Sto→Prop} {KE:(Nat→V)→Ke} {P:α→Sto→Shared→Prop} {E:Value→Shared→Prop}
theorem fD {MN:Heap} {e:Addr} {row col:Int} {x:Option Addr} {Q:Unit→Shared→Prop} {A:Around} {M:Model} (X:Ex B (Pr σ c.F) MN s.heap e row col)
  (h:∀h',Now B c σ MN s.heap e row col h'→(nN s.heap e→nN h' e)→Q () {s with heap:=h'}):wpAny M A (setFlight (.ref e) x) Q E s:=by
 have X':=X;obtain⟨oe,vs,d,mm,t,u,a1,a2,a3,a4,a5,a6,a7,a8,a9,a10,a11,a12,a13⟩:=X;rcases a13 with b1|⟨T,oT,ts,b1,b2,b3,b4,b5,b6,b7,b8⟩
 ·refine c5 (B0 a1 a3 b1 ?_);exact e6 (h _ (.refl X') id)
 ·refine c5 (B0 a1 a3 b1 ?_);refine wpAny_setField b2 b3 b4 (h _ (oK a1 a2 a3 a4 a5 a6 a7 a8 a9 a10 a11 a12 b1 b2 b3 b4 b5 b6 b7 b8) fun _=>?_);exact⟨oe,vs,T,(r4 _ _ b5).trans a1,a3,b1⟩
theorem St.bumpN (hc:c.Ok B) {M1:Sto} {s':Shared} {m':Nat→V} (S:St B c m' M1 s') (N:Nx c σ s M1 s') (MS:St B c m σ s) {h':Heap} (b:Bump B c.sl c.F M1 s'.heap h') (old:∀a o,s.heap.get? a=some o→¬c.sl a→s'.heap.get? a=some o→h'.get? a=some o)
  (alive:∀a,(s.heap.get? a).isSome=true→(s'.heap.get? a).isSome=true→(h'.get? a).isSome=true):St B c m' M1 {s' with heap:=h'}∧Nx c σ s M1 {s' with heap:=h'}:=by
 have ev:Ev (fun a=>σ a≠none∨c.own a) c.sl s.heap h':=by
  refine⟨fun a o q z f=>old a o q f (N.ev.same a o q z f),fun a o q z f=>?_,fun a q=>alive a q (N.ev.alive a q)⟩;refine ar (N.ev.slots a o q z f) fun sl h1=>?_;refine ar (b.f a _ (hc.slF f) h1) fun sl' h2=>?_;exact⟨sl',h2⟩
 refine⟨S.bump hc b (fun a o q=>?_) ?_,⟨ev,N.nd,N.same⟩⟩
 ·refine ev.same a o (MS.stays a o q) (fun z=>?_) (fun z=>by have:=(MS.fal a (hc.slF z)).2;rw[q] at this;cases this);rcases z with z|z
  ·have:=MS.hr.new a z;rw[q] at this;exact nomatch this
  ·have:=(MS.fal a (hc.ownF a z)).2;rw[q] at this;exact nomatch this
 ·refine⟨fun a o e w' f=>?_,fun a o e w' f=>?_,fun a e=>ev.alive a (MS.ev.alive a e)⟩
  ·refine ev.same a o (MS.ev.same a o e w' f) (fun z=>?_) fun z=>?_
   ·rcases z with z|z
    ·exact(MS.nd a z).elim w' fun y=>by rw[e] at y;exact nomatch y
    ·have:=hc.ownNew a z;rw[e] at this;exact nomatch this
   ·exact(hc.FF a z).elim f fun y=>by rw[e] at y;exact nomatch y
  ·refine ar (MS.ev.slots a o e w' f) fun sl q=>?_;by_cases z:σ a≠none∨c.own a
   ·rcases z with z|z
    ·exact(MS.nd a z).elim (fun y=>(w' y).elim) fun y=>by rw[e] at y;exact nomatch y
    ·have:=hc.ownNew a z;rw[e] at this;exact noS this.symm
   ·by_cases zf:c.sl a
    ·refine ar (ev.slots a _ q z zf) fun sl' q'=>?_;exact⟨sl',q'⟩
    ·exact⟨sl,ev.same a _ q z zf⟩
theorem PostS.now (hc:c.Ok B) {M1:Sto} {s':Shared} {e:Addr} {row col:Int} {m':Nat→V} (S:St B c m' M1 s') (N:Nx c σ s M1 s') (MS:St B c m σ s) {h':Heap} (w:Now B c M1 s.heap s'.heap e row col h') (k:KE m' row col M1):PostS B c σ s KE (.ref e) {s' with heap:=h'}:=by
 exact⟨e,row,col,m',M1,rfl,(S.bumpN hc N MS w.bump w.old fun a _=>w.alive a).1,(S.bumpN hc N MS w.bump w.old fun a _=>w.alive a).2,w.ex,k⟩
theorem St.iter (hc:c.Ok B) {M1:Sto} {s':Shared} {m':Nat→V} (S:St B c m' M1 s') (N:Nx c σ s M1 s') (MS:St B c m σ s) {I:Addr} {o:Obj} {T:String} {vs:Array Value} (hI:s.heap.get? I=none) (hp:Pr M1 c.F I) (ho:s'.heap.get? I=some o) (hT:o.cls= .type T) (hd:o.data= .fields vs)
  {h':Heap} (hs:∀b o,b≠I→s'.heap.get? b=some o→h'.get? b=some o) (k:Nat):St B c m' M1 {s' with heap:=h',toks:=k}∧Nx c σ s M1 {s' with heap:=h',toks:=k}:=by
 have b:Bump B c.sl c.F M1 s'.heap h':=by
  refine⟨fun a x p e=>?_,fun a x z e=>hs a x (fun w=>z (w▸hp.1)) e,fun a x f e=>⟨x.slots,hs a x (fun w=>hp.2 (w▸f)) e⟩,fun a x l f e=>hs a x (fun w=>hp.2 (w▸f)) e⟩;by_cases w:a=I
  ·subst w;rw[ho] at e;cases e;exact .inr (.inr ⟨⟨T,hT⟩,vs,hd⟩)
  ·exact .inl (hs a x w e)
 obtain⟨S',N'⟩:=S.bumpN hc N MS b (fun a x q f e=>hs a x (fun w=>by rw[w,hI] at q;cases q) e) fun a q0 q=>by
  by_cases w:a=I
  ·rw[w,hI] at q0;exact noT q0
  ·refine ar (d9.mp q) fun x hx=>?_;rw[hs a x w hx];rfl
 exact⟨S'.toks k,⟨N'.ev,N'.nd,N'.same⟩⟩
theorem PostS.note (hc:c.Ok B) (MS:St B c m σ s) {ev:Value} {s':Shared} (x:PostS B c σ s KE ev s'):wpAny (model B.prog B.w) c.A (noteFrame ev c.env) (fun _ s''=>mc B c σ s KE ev s'') E s':=by
 obtain⟨e,row,col,m',M1,rfl,S,N,X,k⟩:=x;exact FK hc S N.ev.alive X fun h' w t=>⟨.now hc S N MS w k,e,rfl,t⟩
theorem mc.sooner {ev:Value} {s':Shared} (n:Nx c σ s J M0) (x:mc B c J M0 KE ev s'):mc B c σ s KE ev s':=⟨x.1.sooner n,x.2⟩
def md (B:Bs) (c:FC) (σ:Sto) (s:Shared) (Kn:(Nat→V)→Sto→Prop) (Kr:Kx) (KE:(Nat→V)→Ke) (r:Result) (s':Shared):Prop:=match r with
 |.ok fl=>PostF B c σ s Kn Kr (fun _ _=>False) (fun _ _=>False) fl s'
 |.error ev=>mc B c σ s KE ev s'
theorem md.sooner {r:Result} {s':Shared} (n:Nx c σ s J M0) (x:md B c J M0 Kn Kr KE r s'):md B c σ s Kn Kr KE r s':=by
 induction r with
 |ok fl=>obtain⟨m',M1,a,b,d⟩:=x;exact⟨m',M1,a,n.trans b,d⟩
 |error ev=>exact mc.sooner n x
theorem yE {k:Code} (S:St B c m σ s) (hc:c.Ok B) (h:bC (model B.prog B.w) c.A k (md B c σ s Kn Kr KE) s):cN B c (runOwn k c.env) σ s Kn Kr Kb Kc KE:=by
 refine bb (jS (bF h fun r s' z=>?_) nofun)
 induction r with
 |ok fl=>
  obtain⟨m',M1,a,b,d⟩:=z;refine⟨m',M1,a,b,?_⟩;cases fl<;>first|exact d|exact d.elim
 |error ev=>
  refine av fun gP gO=>?_;obtain⟨⟨e,row,col,m',M1,rfl,S',N',X,kk⟩,e',q,oe,vs,T,t1,t2,t3⟩:=z;refine gO ?_;injection q with q;subst q
  refine wpG.any (c5 (B0 t1 t2 t3 ?_));exact fD X fun h' w t=>.now hc S' N' S w kk
theorem sE (hc:c.Ok B) (MS:St B c m σ s) {t:Sem Fin} {Q:Fin→Shared→Prop} (h:wpG (model B.prog B.w) c.A t Q (PostS B c σ s KE) s):
  wpG (model B.prog B.w) c.A (t.onRaise fun x=>do noteFrame x c.env;theTreesLotGoes x) Q (mc B c σ s KE) s:=
 bb (aJ h (fun _ _ q=>q) fun ev s' x=>aa (wpG.any (y2 (x.note hc MS) (fun _ s'' y=>wpG.any (wpAny_theTreesLotGoes y)) fun _ _ e=>e)))
theorem vA (hc:c.Ok B) {q:X} {b:S} {eq:Expr} {sb:List Stmt} (hq:ET B c Sp gv q eq) (hb:ES B c Sp gv b sb):∀n m σ s,qC (fun m σ k=>vcT Sp gv q m σ k (KE m)) (fun m σ kn kb=>vcS Sp gv b m σ kn Kr kb kn KE) Kn n m σ→St B c m σ s→
  bC (model B.prog B.w) c.A (.whileLoop eq sb [] c.env) (md B c σ s Kn Kr KE) s:=by
 intro n
 induction n with
 |zero=>intro m σ s h S;exact h.elim
 |succ n ih=>
  intro m σ s h S;refine aI rfl ?_;refine sE hc S ?_;refine aa (aJ (hq _ _ _ _ _ h S) (fun t M0 q0_=>?_) fun _ _ e=>e.postS);obtain⟨J,M3,M6,k⟩:=q0_
  induction t with
  |false=>
   refine aa (aJ (Bg (Sp:=Sp) (gv:=gv) m J M0 Kn Kr (fun _ _=>False) (fun _ _=>False) KE k M3) (fun fl M8 q0_=>by obtain⟨m',M2,M7,MM,z⟩:=q0_;exact ac ⟨m',M2,M7,M6.nx.trans MM,z⟩) fun _ _ e=>e.sooner M6.nx)
  |true=>
   refine aa (aJ (hb _ _ _ _ _ _ _ _ k M3) (fun fl M8 q0_=>?_) fun _ _ e=>e.sooner M6.nx);obtain⟨m',M2,M7,MM,z⟩:=q0_;have N:=M6.nx.trans MM
   induction fl with
   |next=>exact ac ⟨rfl,bF (ih _ _ _ z M7) fun r s' y=>y.sooner N⟩
   |cont=>exact ac ⟨rfl,bF (ih _ _ _ z M7) fun r s' y=>y.sooner N⟩
   |brk=>exact ac ⟨m',M2,M7,N,z⟩
   |ret v=>exact ac ⟨m',M2,M7,N,z⟩
theorem Ff (hc:c.Ok B) {q:X} {b:S} {eq:Expr} {sb:List Stmt} {pos:Pos} (hq:ET B c Sp gv q eq) (hb:ES B c Sp gv b sb):ES1 B c Sp gv (.while_ q b) (.While eq sb [] pos):=by
 intro m σ s Kn Kr Kb Kc KE h S;refine ar h fun n h=>?_;exact cN.stand (yE S hc (vA hc hq hb n m σ s h S))
end
structure Itr (B:Bs) (c:FC) (I:Addr) (It:Nat→Heap→Prop) (N1:Value) (MX:V) (items:List V) (src:Sto→Prop):Prop where
 obj:∀i h,It i h→∃o T vs,h.get? I=some o∧o.cls= .type T∧o.data= .fields vs
 frame:∀i h h',It i h→(∀o,h.get? I=some o→h'.get? I=some o)→It i h'
 item:∀i σ (s:Shared) d,items[i]?=some d→It i s.heap→HR B c.F σ s.heap→Rv B (Pr σ c.F) s.heap N1 MX→src σ→∀(Q:Option Value→Shared→Prop) (E:Value→Shared→Prop),
  (∀v h' tk,Rv B (Pr σ c.F) h' v d→It (i+1) h'→(∀b o,b≠I→s.heap.get? b=some o→h'.get? b=some o)→Q (some v) {s with heap:=h',toks:=tk})→wpAny (model B.prog B.w) c.A (pyNext (.ref I)) Q E s
 done:∀σ (s:Shared),It items.length s.heap→HR B c.F σ s.heap→Rv B (Pr σ c.F) s.heap N1 MX→src σ→∀(Q:Option Value→Shared→Prop) (E:Value→Shared→Prop),
  (∀h' tk,(∀b o,b≠I→s.heap.get? b=some o→h'.get? b=some o)→Q none {s with heap:=h',toks:=tk})→wpAny (model B.prog B.w) c.A (pyNext (.ref I)) Q E s
 self:∀i (s:Shared),It i s.heap→∀(Q:Value→Shared→Prop) (E:Value→Shared→Prop),Q (.ref I) s→wpAny (model B.prog B.w) c.A (pyIter (.ref I)) Q E s
section
variable {α β:Type} {Kn:(Nat→V)→Sto→Prop} {Kr:Kx} {Kb Kc:(Nat→V)→Sto→Prop} {KE:(Nat→V)→Ke} {P:α→Sto→Shared→Prop} {E:Value→Shared→Prop}
theorem ju (hc:c.Ok B) (MS:St B c m σ s) {t:Sem Fin} {Q:Fin→Shared→Prop} (h:wpG (model B.prog B.w) c.A t Q (PostS B c σ s KE) M0):
  wpG (model B.prog B.w) c.A (t.onRaise fun x=>do noteFrame x c.env;theTreesLotGoes x) Q (mc B c σ s KE) M0:=
 bb (aJ h (fun _ _ q=>q) fun ev s' x=>aa (wpG.any (y2 (x.note hc MS) (fun _ s'' y=>wpG.any (wpAny_theTreesLotGoes y)) fun _ _ e=>e)))
theorem zF {R:Result→Shared→Prop} (h:R (.ok .next) s):bC (model B.prog B.w) c.A (.block [] c.env) R s:=by
 refine aI rfl ?_;exact aa (bb (ac (ac h)))
theorem Dj (hc:c.Ok B) {i:Nat} {id:PySem.Str} {cl:Bool} (hx:(i,id,cl)∈c.vars) (hck:cl=true→c.ck id) {np:Pos} {b:S} {sb:List Stmt} (hb:ES B c Sp gv b sb)
  {I:Addr} {It:Nat→Heap→Prop} {N1:Value} {MX:V} {items:List V} {src live:Sto→Prop} (T:Itr B c I It N1 MX items src) (hl:∀σ,live σ→src σ) {Nd:Nat→V} (MS:St B c Nd σ s) (hI:s.heap.get? I=none):
  ∀(rest:List V) (k:Nat) m J M0,items.drop k=rest→k≤items.length→fY i live (fun m σ kn kb=>vcS Sp gv b m σ kn Kr kb kn KE) Kn rest m J→St B c m J M0→Nx c σ s J M0→It k M0.heap→src J→Rv B (Pr J c.F) M0.heap N1 MX→Pr J c.F I→
   bC (model B.prog B.w) c.A (.forLoop (.Name id np) (.ref I) sb [] c.env) (md B c σ s Kn Kr KE) M0:=by
 intro rest
 induction rest with
 |nil=>
  intro k m J M0 hr hk h M3 M6 hit hs rv hp;refine av fun gP gO=>?_;have hk':k=items.length:=by
   have:=o9.mp hr;lia
  subst hk';refine gO ?_;refine aI rfl ?_;refine ju hc MS ?_;refine aa (aR (aa (bb (wpG.any (T.done J M0 hit M3.hr rv hs _ _ fun h' tk hk=>?_)))));refine av fun gP gO=>?_;refine eB (T.obj _ _ hit) fun o Ty vs o1 o2 o3=>?_;refine am (M3.iter hc M6 MS hI hp o1 o2 o3 hk tk) fun M7 MM=>?_;refine gO ?_;exact ac ⟨rfl,zF ⟨m,J,M7,MM,h⟩⟩
 |cons e es ih=>
  intro k m J M0 hr hk h M3 M6 hit hs rv hp;have hke:items[k]?=some e:=by
   have:=congrArg List.head? hr;rw[B9] at this;exact this
  have hkl:k<items.length:=(i5.mp hke).1;have hr':items.drop (k+1)=es:=by rw[←K7,hr];rfl
  refine aI rfl ?_;refine ju hc MS ?_;refine aa (aR (aa (bb (wpG.any (T.item k J M0 e hke hit M3.hr rv hs _ _ fun v h' tk re hit' hk=>?_)))));refine av fun gP gO=>?_;refine eB (T.obj _ _ hit) fun o Ty vs o1 o2 o3=>?_;refine eB (T.obj _ _ hit') fun o' Ty' vs' p1 p2 p3=>?_;refine am (M3.iter hc M6 MS hI hp o1 o2 o3 hk tk) fun M7 MM=>?_;have NG:Rv B (Pr J c.F) h' N1 MX:=rv.alt fun a x p q=>by
   by_cases w:a=I
   ·subst w;rw[o1] at q;cases q;exact .inr (.inr ⟨⟨Ty,o2⟩,vs,o3⟩)
   ·exact .inl (hk a x w q)
  refine gO ?_;refine aa (ci (a:=()) rfl ?_);refine aa (aa (aR (wpG.any (ir hc hx hck M7 re fun N2 MU MT=>?_))));have Nv:=MM.trans MT;refine aa (aJ (hb _ _ _ _ _ _ _ _ h MU) (fun fl Np q0_=>?_) fun _ _ x=>x.sooner Nv);obtain⟨m',MQ,N3,N5,z⟩:=q0_;have N:=Nv.trans N5;have again:(live MQ∧fY i live (fun m σ kn kb=>vcS Sp gv b m σ kn Kr kb kn KE) Kn es m' MQ)→bC (model B.prog B.w) c.A (.forLoop (.Name id np) (.ref I) sb [] c.env) (md B c σ s Kn Kr KE) Np:=fun z=>by
   have k3:=MT.keep hc I o' hp p1;have k4:=N5.keep hc I o' k3.1 k3.2;refine ih (k+1) m' MQ Np hr' hkl z.2 N3 N (T.frame _ _ _ hit' fun x q=>?_) (hl _ z.1) (N5.rv hc (MT.rv hc NG)) k4.1;rw[p1] at q;cases q;exact k4.2
  induction fl with
  |next=>exact ac ⟨rfl,again z⟩
  |cont=>exact ac ⟨rfl,again z⟩
  |brk=>exact ac ⟨m',MQ,N3,N,z⟩
  |ret v=>exact ac ⟨m',MQ,N3,N,z⟩
theorem rm {I:Addr} {h h':Heap} {Pp:Addr→Prop} {v:Value} {d:V} {o:Obj} {T:String} {vs:Array Value} (r:Rv B Pp h v d) (ho:h.get? I=some o) (hT:o.cls= .type T) (hd:o.data= .fields vs) (hs:∀b o,b≠I→h.get? b=some o→h'.get? b=some o):Rv B Pp h' v d:=
 r.alt fun a x p q=>by
  by_cases w:a=I
  ·subst w;rw[ho] at q;cases q;exact .inr (.inr ⟨⟨T,hT⟩,vs,hd⟩)
  ·exact .inl (hs a x w q)
theorem CY (hc:c.Ok B) (hh:c.hd=true) {I l:Addr} {MX:V} {items:List V}:Itr B c I (fun i h=>h.IsListIter I l i) (.ref l) MX items (fun σ=>cb σ MX=some items):=by
 refine⟨fun i h hit=>?_,fun i h h' hit k=>?_,fun i σ s d hd hit H rv hs Q E hQ=>?_,fun σ s hit H rv hs Q E hQ=>?_,fun i s hit Q E hQ=>wpAny_pyIter_listiter hit hQ⟩
 ·refine av fun gP gO=>?_;refine eQ hit fun o h1 h2 h3=>?_;refine gO ?_;exact⟨o,_,_,h1,h2,h3⟩
 ·refine eQ hit fun o h1 h2 h3=>?_;exact⟨o,k o h1,h2,h3⟩
 ·refine eA (cI H rv hs) fun a vs n e h1 r1 l1=>?_;injection e with e;subst e
  refine aj (r1.get hd) fun v hv re=>?_;have hit0:=hit;refine eQ hit0 fun o g1 g2 g3=>?_;refine wpAny_pyNext_list_item (x:=v) hit (⟨_,h1,rfl,n,rfl⟩:s.heap.IsList l vs.toArray) (by simpa using hv) fun h' hit' hsb=>?_;exact hQ v h' s.toks (rm re g1 g2 g3 (fun b o ne q=>(hsb.2 b ne).trans q)) hit' (fun b o ne q=>(hsb.2 b ne).trans q)
 ·refine av fun gP gO=>?_;refine eA (cI H rv hs) fun a vs n e h1 r1 l1=>?_;refine gO ?_;injection e with e;subst e
  have hit0:=hit;refine eQ hit0 fun o g1 g2 g3=>?_;refine wpAny_pyNext_list_end (hc.handled hh) hit (⟨_,h1,rfl,n,rfl⟩:s.heap.IsList l vs.toArray) (by rw[←r1.length];simp) fun h' hk=>?_;exact hQ h' s.toks fun b o ne q=>hk b o ne q
theorem yV (hc:c.Ok B) (hh:c.hd=true) {I l:Addr} {items:List V}:Itr B c I (fun i h=>h.IsTupleIter I l i) (.ref l) (.tup items) items (fun _=>True):=by
 refine⟨fun i h hit=>?_,fun i h h' hit k=>?_,fun i σ s d hd hit H rv hs Q E hQ=>?_,fun σ s hit H rv hs Q E hQ=>?_,fun i s hit Q E hQ=>wpAny_pyIter_tupleiter hit hQ⟩
 ·refine av fun gP gO=>?_;refine eQ hit fun o h1 h2 h3=>?_;refine gO ?_;exact⟨o,_,_,h1,h2,h3⟩
 ·refine eQ hit fun o h1 h2 h3=>?_;exact⟨o,k o h1,h2,h3⟩
 ·refine jw rv.inv fun a vs n e h1 p1 r1 l1=>?_;injection e with e
  subst e;refine aj (r1.get hd) fun v hv re=>?_;have hit0:=hit;refine eQ hit0 fun o g1 g2 g3=>?_;refine wpAny_pyNext_tuple_item (x:=v) hit (⟨_,h1,rfl,n,rfl⟩:s.heap.IsTuple l vs.toArray) (by simpa using hv) fun h' hit' hsb=>?_;exact hQ v h' s.toks (rm re g1 g2 g3 (fun b o ne q=>(hsb.2 b ne).trans q)) hit' (fun b o ne q=>(hsb.2 b ne).trans q)
 ·refine jw rv.inv fun a vs n e h1 p1 r1 l1=>?_;injection e with e
  subst e;refine wpAny_pyNext_tuple_end (hc.handled hh) hit (⟨_,h1,rfl,n,rfl⟩:s.heap.IsTuple l vs.toArray) (by rw[←r1.length];simp) fun h' hk=>?_;exact hQ h' s.toks fun b o ne q=>hk b o ne q
theorem xr (hc:c.Ok B) (hh:c.hd=true) {I:Addr} {x:PySem.Str} {t:Tok} {ty:String} (hty:ty="str_ascii_iterator"∨ty="str_iterator"):Itr B c I (fun i h=>h.IsStrIter I ty x t i) .none .none (x.cps.toList.map fun c=>.str [c]) (fun _=>True):=by
 refine⟨fun i h hit=>?_,fun i h h' hit k=>?_,fun i σ s d hd hit H rv hs Q E hQ=>?_,fun σ s hit H rv hs Q E hQ=>?_,fun i s hit Q E hQ=>hty.elim (fun e=>wpAny_pyIter_striter_ascii (by rw[←e];exact hit) hQ) fun e=>wpAny_pyIter_striter_wide (by rw[←e];exact hit) hQ⟩
 ·refine av fun gP gO=>?_;refine eQ hit fun o h1 h2 h3=>?_;refine gO ?_;exact⟨o,_,_,h1,h2,h3⟩
 ·refine eQ hit fun o h1 h2 h3=>?_;exact⟨o,k o h1,h2,h3⟩
 ·rw[v7] at hd;refine aj (i8.mp hd) fun k hk z2_=>?_;subst z2_;have hk':x.cps[i]?=some k:=by simpa using hk
  have re:∀h' tk,Rv B (Pr σ c.F) h' (.str ⟨#[k]⟩ tk) (.str [k]):=fun h' tk=>.str _ tk rfl (by show 1≤ah;unfold ah;lia);rcases hty with rfl|rfl
  ·exact wpAny_pyNext_ascii_item hit hk' fun h' hit' hsb=>hQ _ h' _ (re h' _) hit' fun b o ne q=>(hsb.2 b ne).trans q
  ·exact wpAny_pyNext_wide_item hit hk' fun h' hit' hsb=>hQ _ h' _ (re h' _) hit' fun b o ne q=>(hsb.2 b ne).trans q
 ·have hn:x.cps[(x.cps.toList.map fun c=>V.str [c]).length]?=none:=by simp
  rcases hty with rfl|rfl
  ·exact wpAny_pyNext_ascii_end (hc.handled hh) hit hn fun h' hk=>hQ h' s.toks fun b o ne q=>hk b o ne q
  ·exact wpAny_pyNext_wide_end (hc.handled hh) hit hn fun h' hk=>hQ h' s.toks fun b o ne q=>hk b o ne q
theorem yW (hc:c.Ok B) (hh:c.hd=true) {I:Addr} (a:Int) (n:Nat):Itr B c I (fun i h=>IsRangeIter h I (a+(i:Int)) ((n:Int) - (i:Int)) 1) .none .none ((List.range n).map fun(k:Nat)=>.int (a+(k:Int))) (fun _=>True):=by
 refine⟨fun i h hit=>⟨_,_,_,hit,rfl,rfl⟩,fun i h h' hit k=>k _ hit,fun i σ s d hd hit H rv hs Q E hQ=>?_,fun σ s hit H rv hs Q E hQ=>?_,fun i s hit Q E hQ=>wpAny_pyIter_rangeiter hit hQ⟩
 ·rw[v7] at hd;refine aj (i8.mp hd) fun k hk z2_=>?_;subst z2_;obtain⟨hi,e⟩:=i5.mp hk;simp at hi e;subst e;refine wpAny_pyNext_range_item hit (by omega) fun h' hit' hsb=>hQ _ h' _ (.int _ _) ?_ fun b o ne q=>(hsb.2 b ne).trans q;have e1:a+((i+1:Nat):Int)=a+(i:Int)+1:=by push_cast;lia
  have e2:(n:Int) - ((i+1:Nat):Int)=(n:Int) - (i:Int) - 1:=by push_cast;lia
  rw[e1,e2];exact hit'
 ·refine wpAny_pyNext_range_end (hc.handled hh) hit (by simp) fun h' hk=>hQ h' s.toks fun b o ne q=>hk b o ne q
theorem Gc (hc:c.Ok B) (hh:c.hd=true) {I l:Addr} {MX:V} {items:List V}:Itr B c I (fun i h=>i≤items.length∧h.IsRevIter I l ((items.length:Int) - 1 - (i:Int))) (.ref l) MX items.reverse (fun σ=>cb σ MX=some items):=by
 refine⟨fun i h hit=>?_,fun i h h' hit k=>?_,fun i σ s d hd hit H rv hs Q E hQ=>?_,fun σ s hit H rv hs Q E hQ=>?_,fun i s hit Q E hQ=>wpAny_pyIter_revIter hit.2 hQ⟩
 ·refine av fun gP gO=>?_;obtain⟨-,o,h1,h2,h3⟩:=hit;refine gO ?_;exact⟨o,_,_,h1,h2,h3⟩
 ·obtain⟨hl,o,h1,h2,h3⟩:=hit;exact⟨hl,o,k o h1,h2,h3⟩
 ·refine eA (cI H rv hs) fun a vs n e h1 r1 l1=>?_;injection e with e;subst e
  refine av fun gP gO=>?_;have hi:i<items.length:=by
   have:=(i5.mp hd).1
   simpa using this
  rw[List.getElem?_reverse hi] at hd;refine aj (r1.get hd) fun v hv re=>?_;have e:(items.length:Int) - 1 - (i:Int)=((items.length - 1 - i:Nat):Int):=by omega
  have hit0:=hit.2;simp only[e] at hit0;have hit1:=hit0;refine eQ hit1 fun o g1 g2 g3=>?_;refine gO ?_;refine wpAny_pyNext_rev_item (x:=v) hit0 (⟨_,h1,rfl,n,rfl⟩:s.heap.IsList l vs.toArray) (by simpa using hv) fun h' hit' hsb=>?_;refine hQ v h' s.toks (rm re g1 g2 g3 (fun b o ne q=>(hsb.2 b ne).trans q)) ⟨hi,?_⟩ (fun b o ne q=>(hsb.2 b ne).trans q);have e':(items.length:Int) - 1 - ((i+1:Nat):Int)=((items.length - 1 - i:Nat):Int) - 1:=by lia
  rw[e'];exact hit'
 ·have hit0:=hit.2;have e:(items.length:Int) - 1 - ((items.reverse.length:Nat):Int)= -1:=by rw[r7];lia
  simp only[e] at hit0;exact wpAny_pyNext_rev_end (hc.handled hh) hit0 fun h' hk=>hQ h' s.toks fun b o ne q=>hk b o ne q
theorem vX {k:Code} (S:St B c m σ s) (hc:c.Ok B) (h:bC (model B.prog B.w) c.A k (md B c σ s Kn Kr KE) M8):
  wpG (model B.prog B.w) c.A (runOwn k c.env) (PostF B c σ s Kn Kr Kb Kc) (PostS B c σ s KE) M8:=by
 refine bb (jS (bF h fun r s' z=>?_) nofun)
 induction r with
 |ok fl=>
  obtain⟨m',M1,a,b,d⟩:=z;refine⟨m',M1,a,b,?_⟩;cases fl<;>first|exact d|exact d.elim
 |error ev=>
  refine av fun gP gO=>?_;obtain⟨⟨e,row,col,m',M1,rfl,S',N',X,kk⟩,e',q,oe,vs,T,t1,t2,t3⟩:=z;refine gO ?_;injection q with q;subst q
  refine wpG.any (c5 (B0 t1 t2 t3 ?_));exact fD X fun h' w t=>.now hc S' N' S w kk
theorem yt {d d':V} {es:List V} (e:jl 2 d d' σ=some es):(∃l,d= .str l∧es=l.map fun c=>.str [c])∨d= .tup es∨cb σ d=some es∧∀M1,jy d σ M1→cb M1 d=some es:=by
 cases d with
 |str x=>exact .inl ⟨x,rfl,(c7 e).symm⟩
 |tup x=>exact .inr (.inl (congrArg V.tup (c7 e)))
 |lst x=>exact .inr (.inr ⟨e,fun _ _=>e⟩)
 |lref a=>
  refine .inr (.inr ⟨e,fun M1 hl=>?_⟩);have e:cb σ (.lref a)=some es:=e;unfold cb at e⊢;dsimp only at e⊢;rw[hl];exact e
 |_=>exact noS e
theorem CZ (hc:c.Ok B) (hh:c.hd=true) (S:St B c m σ s) {v:Value} {d d':V} {es:List V} (r:Rv B (Pr σ c.F) s.heap v d) (e:jl 2 d d' σ=some es) {Q:Value→Shared→Prop}
  (h:∀(o:Obj) (It:Nat→Heap→Prop) (N1:Value) (MX:V) (src:Sto→Prop),(∀c:FC,c.Ok B→c.hd=true→Itr B c s.heap.objs.size It N1 MX es src)→It 0 (s.heap.push o)→(∀M1,jy d σ M1→src M1)→src σ→Rv B (Pr σ c.F) s.heap N1 MX→Q (.ref s.heap.objs.size) {s with heap:=s.heap.push o}):
  wpAny (model B.prog B.w) c.A (pyIter v) Q E s:=by
 rcases yt e with ⟨l,rfl,rfl⟩|rfl|⟨hs,hl⟩
 ·refine aZ r.inv fun x t z hx _=>?_;subst z hx;cases hq:x.cps.all (· <128) with
  |true=>exact wpAny_pyIter_ascii hq (h _ _ .none .none _ (fun _ hc hh=>xr hc hh (.inl rfl)) ⟨_,i2 _ rfl,rfl,rfl⟩ (fun _ _=>trivial) trivial .none)
  |false=>exact wpAny_pyIter_wide hq (h _ _ .none .none _ (fun _ hc hh=>xr hc hh (.inr rfl)) ⟨_,i2 _ rfl,rfl,rfl⟩ (fun _ _=>trivial) trivial .none)
 ·refine jw r.inv fun a vs n z h1 p1 r1 l1=>?_;subst z;refine wpAny_pyIter_tuple (⟨_,h1,rfl,n,rfl⟩:s.heap.IsTuple a vs.toArray) ?_;exact h _ _ (.ref a) (.tup es) _ (fun _ hc hh=>yV hc hh) ⟨_,i2 _ rfl,rfl,rfl⟩ (fun _ _=>trivial) trivial r
 ·refine eA (cI S.hr r hs) fun a vs n z h1 r1 l1=>?_;subst z;refine wpAny_pyIter_list (⟨_,h1,rfl,n,rfl⟩:s.heap.IsList a vs.toArray) ?_;exact h _ _ (.ref a) d _ (fun _ hc hh=>CY hc hh) ⟨_,i2 _ rfl,rfl,rfl⟩ hl hs r
noncomputable def iP:Expr→Bool
 |.Set .. =>false
 |_=>true
theorem oJ {e:Expr} {env:Env} {x:Value} (h:iP e=true):foldedSetIterable e env x=pure x:=by
 cases e<;>first|(cases h;done)|rfl
def pW (B:Bs) (c:FC) (KK:List V→(Sto→Prop)→Sto→Prop) (MW:Shared) (x:Value) (J:Sto) (M0:Shared):Prop:=∀(Q:Value→Shared→Prop) (E:Value→Shared→Prop),
 (∀I (It:Nat→Heap→Prop) (N1:Value) (MX:V) (src live:Sto→Prop) es M8,es.length≤ah→(M8=M0∨∃o,M8={M0 with heap:=M0.heap.push o})→MW.heap.get? I=none→Pr J c.F I→(∀c:FC,c.Ok B→c.hd=true→Itr B c I It N1 MX es src)→It 0 M8.heap→(∀M1,live M1→src M1)→src J→
  Rv B (Pr J c.F) M8.heap N1 MX→KK es live J→Q (.ref I) M8)→wpAny (model B.prog B.w) c.A (pyIter x) Q E M0
def jR (B:Bs) (c:FC) (Sp:Nat→aP) (gv:Nat→List Nat) (kind:Nat) (e f:X) (ie:Expr):Prop:=iP ie=true∧∀m σ s (KK:List V→(Sto→Prop)→Sto→Prop) KE,
 vcX Sp gv e m σ (fun d J=>vcX Sp gv f m J (fun d' M2=>cS (jl kind d d' M2) fun es=>KK es (jy d M2) M2) KE) KE→St B c m σ s→Tri B c (eval ie c.env) m σ s (pW B c KK s) KE
theorem pW.push (hc:c.Ok B) (M3:St B c m J M0) (M6:Nq c σ s J M0) {KK:List V→(Sto→Prop)→Sto→Prop} {x:Value} {es:List V} {live:Sto→Prop} (k:KK es live J) (hlen:es.length≤ah)
  (h:∀(Q:Value→Shared→Prop) (E:Value→Shared→Prop),(∀(o:Obj) (It:Nat→Heap→Prop) (N1:Value) (MX:V) (src:Sto→Prop),(∀c:FC,c.Ok B→c.hd=true→Itr B c M0.heap.objs.size It N1 MX es src)→It 0 (M0.heap.push o)→(∀M1,live M1→src M1)→src J→Rv B (Pr J c.F) M0.heap N1 MX→Q (.ref M0.heap.objs.size) {M0 with heap:=M0.heap.push o})→
   wpAny (model B.prog B.w) c.A (pyIter x) Q E M0):pW B c KK s x J M0:=fun Q E hQ=>h Q E fun o It N1 MX src T hi hl hs r=>by
 refine hQ _ It N1 MX src live es _ hlen (.inr ⟨o,rfl⟩) ?_ ⟨M3.fresh.1,M3.fresh.2.1⟩ T hi hl hs ((Nq.push c J M0 o M0.toks).rv hc r) k;cases q:s.heap.get? M0.heap.objs.size with
 |none=>rfl
 |some o=>exact(bJ (M6.ev.alive _ (by rw[q];rfl)) (bQ _)).elim
theorem Fd {d d':V} {v:Value} {es:List V} {F:Addr→Prop} {h:Heap} (H:HR B F σ h) (r:Rv B (Pr σ F) h v d) (e:jl 2 d d' σ=some es):es.length≤ah:=by
 have sq (e:cb σ d=some es):es.length≤ah:=by obtain⟨-,-,-,-,-,-,l⟩:=cI H r e;exact l
 cases d<;>try exact sq e
 ·refine aZ r.inv fun x t _ _ hl=>?_;cases e;rw[f7];exact hl
 ·refine jw r.inv fun _ _ _ _ _ _ _ l1=>?_;cases e;exact l1
theorem EZ (hc:c.Ok B) (hh:c.hd=true) {e:X} {ee:Expr} (hn:iP ee=true) (he:EX B c Sp gv e ee):jR B c Sp gv 2 e .absent ee:=by
 refine⟨hn,fun m σ s KK KE h S=>(he _ _ _ _ _ h S).mono fun v J M0 M3 M6 q0_=>?_⟩;obtain⟨d,r,k⟩:=q0_;refine aj (cy k) fun es e1 k=>?_;exact pW.push hc M3 M6 k (Fd M3.hr r e1) fun Q E hQ=>CZ hc hh M3 r e1 hQ
theorem Ma (hc:c.Ok B) {i kind:Nat} {id:PySem.Str} {cl:Bool} (hx:(i,id,cl)∈c.vars) (hck:cl=true→c.ck id) (hh:c.hd=true) {e f:X} {ie:Expr} {np pos:Pos} {b:S} {sb:List Stmt} (hs:jR B c Sp gv kind e f ie) (hb:ES B c Sp gv b sb):
  ES1 B c Sp gv (.for_ i kind e f b) (.For (.Name id np) ie sb [] pos):=by
 intro m σ s Kn Kr Kb Kc KE h S;refine cN.stand (aa (aJ (hs.2 _ _ _ (fun es live M2=>fY i live (fun m σ kn kb=>vcS Sp gv b m σ kn Kr kb kn KE) Kn es m M2) _ h S) (fun v M0 q0_=>?_) fun _ _ x=>x.postS));obtain⟨J,M3,M6,k⟩:=q0_;refine aa (ci (oJ hs.1) (aa (aR (aa (ay (wpG.any (k _ _ fun I It N1 MX src live es M8 _ NI hI hp T hi hl hs r k=>?_)))))));have M7:St B c m J M8∧Nq c J M0 J M8:=by
  rcases NI with rfl|⟨o,rfl⟩
  ·exact⟨M3,.refl ..⟩
  ·exact⟨M3.push hc o M0.toks,Nq.push c J M0 o M0.toks⟩
 exact vX S hc (Dj hc hx hck hb (T c hc hh) hl S hI es 0 m J _ (G1) (g6 _) k M7.1 (M6.trans M7.2).nx hi hs r hp)
theorem oA {a b:Int}:Builtin.Range.rangeSize a b 1=(((b - a).toNat:Nat):Int):=by
 rw[rangeSize_one];exact iteInduction (motive:=fun z=>z=(((b - a).toNat:Nat):Int)) (fun h=>(K6 (Int.sub_nonneg_of_le (Int.le_of_lt h))).symm) fun h=>by
  rw[Int.toNat_eq_zero.mpr (Int.sub_nonpos_of_le (r8.mp h))];rfl
theorem wU {i:Int} (h0: -(ah:Int)≤i) (h1:i≤ah):Builtin.Range.rangeFitsLong i=true:=
 d8.mpr ⟨f9 (u5 (by decide) h0),f9 (K8 h1 (by decide))⟩
theorem uE {a b:Int} (h:((0:Int)≤a∧a≤ah)∧b≤ah∧ -(ah:Int)≤b):Builtin.Range.small a b 1=true:=by
 unfold Builtin.Range.small;refine er oA ?_;refine d8.mpr ⟨d8.mpr ⟨d8.mpr ⟨d8.mpr ⟨wU (u5 (by decide) h.1.1) h.1.2,(wU h.2.2 h.2.1)⟩,by decide⟩,wU (u5 (by decide) (g9 _)) ?_⟩,l8.mpr (.inr ?_)⟩
 ·exact n8.mpr (I6.mpr (u5 (Int.sub_le_self b h.1.1) h.2.1))
 ·show Builtin.Range.rangeFitsLong (b+0)=true;rw[Int.add_zero];exact(wU h.2.2 h.2.1)
theorem qd (hc:c.Ok B) (hh:c.hd=true) {a b:Int} (h:((0:Int)≤a∧a≤ah)∧b≤ah∧ -(ah:Int)≤b) {r:Addr} {t u v:Tok} (hr:IsRange s.heap r a b 1 t u v) {Q:Value→Shared→Prop}
  (k:∀(o:Obj) (It:Nat→Heap→Prop),(∀c:FC,c.Ok B→c.hd=true→Itr B c s.heap.objs.size It .none .none ((List.range (b - a).toNat).map fun(k:Nat)=>.int (a+(k:Int))) (fun _=>True))→It 0 (s.heap.push o)→Q (.ref s.heap.objs.size) {s with heap:=s.heap.push o}):
  wpAny (model B.prog B.w) c.A (pyIter (.ref r)) Q E s:=by
 refine wpAny_pyIter_range hr (uE h) (k _ _ (fun _ hc hh=>yW hc hh a (b - a).toNat) ?_);refine er oA ?_;have:IsRangeIter (s.heap.push {cls:=.type "range_iterator",data:=.fields #[rawInt a,rawInt (((b - a).toNat:Nat):Int),rawInt 1]}) s.heap.objs.size a (((b - a).toNat:Nat):Int) 1:=i2 _ rfl
 simpa using this
theorem xe {n:Nat} {f:Nat→V} (h:n≤ah):((List.range n).map f).length≤ah:=by rw[f7,A1];exact h
theorem yr (hc:c.Ok B) (hh:c.hd=true) {e:X} {ee:Expr} {rp rpos:Pos} (hst:az ee=true) (he:EX B c Sp gv e ee) (hg:B.mg "range"=none) (hki:c.env.kindOf "range"=some .globalImplicit):
  jR B c Sp gv 0 e .absent (.Call (.Name "range" rp) [ee] [] rpos):=by
 refine⟨rfl,fun m σ s KK KE h S=>?_⟩;refine iE hc (xs:=.cons e .nil) (eE hst) (cz hst he ej hc) hg PyProof.Rows.Boot.«range» (by decide) hki (by decide) (fun _ _=>.t _) (K:=fun ds J=>ig ds fun d=>cS (jl 0 d .none J) fun es=>KK es (jy d J) J) (wL h) S fun vs ds J M0 M3 M6 r k=>?_;refine av fun gP gO=>?_;refine aj (gx k) fun d z1_ k=>?_;subst z1_;refine aj (xX r) fun v z1_ r'=>?_;subst z1_;refine aj (cy k) fun es e2 k=>?_;refine aj (dP e2) fun n z1_ e2=>?_;subst z1_;refine am (jZ e2) fun hn z1_=>?_;subst z1_;refine ar r'.inv fun t z1_=>?_;subst z1_;refine gO ?_;refine(show dA B c _ m J M0 _ KE from call_range_1 ?_).up;refine⟨J,M3.push hc _ _,Nq.push ..,?_⟩;refine pW.push hc (M3.push hc _ _) (M6.trans (Nq.push ..)) k (xe (I6.mpr hn.1)) fun Q E hQ=>?_;refine qd hc hh (a:=0) (b:=n) ⟨⟨Int.le_refl 0,by decide⟩,hn⟩ (i2 _ rfl) fun o It T hi=>?_;exact hQ o It .none .none _ (fun c a b=>by simpa using T c a b) hi (fun _ _=>trivial) trivial .none
def Ld {α:Type} (x:List α) (f:α→α→Prop):Prop:=match x with|[a,b]=>f a b|_=>False
theorem tg {α:Type} {x:List α} {f:α→α→Prop} (h:Ld x f):∃a b,x=[a,b]∧f a b:=by
 cases x with
 |nil=>exact False.elim h
 |cons a r=>cases r with
  |nil=>exact False.elim h
  |cons b r=>induction r with
   |nil=>exact⟨a,b,rfl,h⟩
   |cons _ _=>exact False.elim h
theorem Aw {a a':X} {N9:V→V→Sto→Prop} {KE:Ke} (h:vcX Sp gv a m σ (fun d J=>vcX Sp gv a' m J (fun d' M2=>N9 d d' M2) KE) KE):jj Sp gv (.cons a (.cons a' .nil)) m σ (fun ds M2=>Ld ds fun d d'=>N9 d d' M2) KE:=h
theorem zP {Q:Addr→Prop} {h:Heap} {vs:List Value} {d d':V} (r:Rvs B Q h vs [d,d']):∃v v',vs=[v,v']∧Rv B Q h v d∧Rv B Q h v' d':=by
 refine av fun gP gO=>?_;refine aZ r.inv fun v r1 e a x=>?_;refine aj (xX x) fun v' z1_ b=>?_;subst z1_;refine gO ?_;exact⟨v,v',e,a,b⟩
theorem kq {e e':Expr} (h:az e=true) (h':az e'=true):bo [e,e']=true:=d8.mpr ⟨h,eE h'⟩
theorem vS (hc:c.Ok B) (hh:c.hd=true) {e f:X} {ee ef:Expr} {rp rpos:Pos} (hst:az ee=true) (hsf:az ef=true) (he:EX B c Sp gv e ee) (hf:EX B c Sp gv f ef) (hg:B.mg "range"=none) (hki:c.env.kindOf "range"=some .globalImplicit):
  jR B c Sp gv 1 e f (.Call (.Name "range" rp) [ee,ef] [] rpos):=by
 refine⟨rfl,fun m σ s KK KE h S=>?_⟩;refine iE hc (xs:=.cons e (.cons f .nil)) (kq hst hsf) (cz hst he (cz hsf hf ej hc) hc) hg PyProof.Rows.Boot.«range» (by decide) hki (by decide) (fun _ _=>.t _) (Aw (N9:=fun d d' M2=>cS (jl 1 d d' M2) fun es=>KK es (jy d M2) M2) h) S fun vs ds J M0 M3 M6 r k=>?_;refine av fun gP gO=>?_;refine dU (tg k) fun d d' z2_ k=>?_;subst z2_;refine aZ (zP r) fun v v' z2_ r' r''=>?_;subst z2_;refine aj (cy k) fun es e2 k=>?_;refine aj (dP e2) fun a z1_ e3=>?_;subst z1_;refine aj (dP e3) fun b z1_ e4=>?_;subst z1_;refine am (jZ e4) fun hn z1_=>?_;subst z1_;refine ar r'.inv fun t z1_=>?_;subst z1_;refine ar r''.inv fun u z1_=>?_;subst z1_;refine gO ?_;refine(show dA B c _ m J M0 _ KE from call_range_2 ?_).up;refine⟨J,M3.push hc _ _,Nq.push ..,?_⟩;refine pW.push hc (M3.push hc _ _) (M6.trans (Nq.push ..)) k (xe (I6.mpr (u5 (Int.sub_le_self b hn.1.1) hn.2.1))) fun Q E hQ=>?_;exact qd hc hh hn (i2 _ rfl) fun o It T hi=>hQ o It .none .none _ T hi (fun _ _=>trivial) trivial .none
theorem Gs (hc:c.Ok B) {o a a':X} {eo ea ea':Expr} {apos pos:Pos} (hb:bg eo=true) (hst:az ea=true) (hst':az ea'=true) (hline:(apos.endLine==pos.line)=true) (ho:EX B c Sp gv o eo) (ha:EX B c Sp gv a ea) (ha':EX B c Sp gv a' ea'):
  EX B c Sp gv (.find o a a') (.Call (.Attribute eo "find" apos) [ea,ea'] [] pos):=by
 intro m σ s K KE h S;refine Tri.meth hb (kq hst hst') (by show 2<30;decide) hline ho h S fun v d J M0 M3 M6 r ⟨g,k⟩=>?_;refine av fun gP gO=>?_;refine ar (lK g) fun xx z1_=>?_;subst z1_;refine dU r.inv fun x t z2_ _=>?_;subst z2_;refine gO ?_;refine⟨_,_,fun q=>ky F.slot_str_find F.type_str_find q,Tri.callWith hc (xs:=.cons a (.cons a' .nil)) (kq hst hst') (cz hst ha (cz hst' ha' ej hc) hc) (fun _ _=>.b _) (Aw k) M3 fun vs ds M2 M8 M7 MM MR kk=>?_⟩;refine av fun gP gO=>?_;refine dU (tg kk) fun d d' z2_ kk=>?_;subst z2_;refine aZ (zP MR) fun w w' z2_ r' r''=>?_;subst z2_;refine aj (gy kk) fun k' z1_ kk=>?_;subst z1_;refine aj (cJ kk) fun i z1_ kk=>?_;subst z1_;refine gO ?_;exact(Gj M7 (MM.rv hc r) r' r'' kk.1 kk.2).up
end
section
variable {prog:Program} {w:World} {A:Around} {E:Value→Shared→Prop} {R:Result→Shared→Prop}
theorem wB {body:List Stmt} {env:Env}
  (h:wpG (model prog w) (A.deeper env) (execs body env) (fun f s'=>R (.ok (.ret (match f with|.ret v=>v|_=>.none))) s')
   (fun e s'=>wpG (model prog w) (A.deeper env) (leaving env e) (fun _ s''=>R (.error e) s'') (fun e' s''=>R (.error e') s'') s') s):bC (model prog w) A (.func body env) R s:=by
 refine aI rfl ?_;show wpG _ (A.deeper env) (do point;match ←(execs body env).onRaise (leaving env) with|.ret v=>ret v|_=>ret .none) _ _ s;refine aa (lq (aa (bb (aJ h (fun f s' h'=>?_) fun _ _ h'=>h'))));cases f<;>exact ac h'
theorem jo {a:Addr} {args:Args} {o:Obj} {fd:FuncData} {body:List Stmt} (hroom:A.depth<recursionLimit) (ho:s.heap.get? a=some o)
  (hd':o.data= .func fd) (hco:fd.scope.isCoroutine=false) (hgen:fd.scope.isGenerator=false) (hbody:fd.body= .stmts body) (hcd:s.heap.CodeRec fd.code fd.qualname)
  (h:wpG (model prog w) A.in1 (bindArgs fd args) (fun binds M0=>
   wpG (model prog w) A.in1 (newFunctionEnv fd.scope fd.globals fd.closure binds (fd.qualname++".<locals>.") (some a) fd.code none fd.builtins)
    (fun env M8=>M8.heap.NoLimit∧bC (model prog w) A (.func body env) R M8) (fun e s'=>R (.error e) s') M0) (fun e s'=>R (.error e) s') s):
  bC (model prog w) A (.call (.ref a) args) R s:=by
 refine aI rfl ?_;show wpG _ A.in1 (callAny (.ref a) args) _ _ s;refine aa (wpG.any (D2 ho ?_));refine av fun gP gO=>?_;refine Lr hcd fun c oc vs tq hc hoc hdc hq=>?_;refine gO ?_;simp only[hd',callFunction,hco,hgen,hbody,hc];rw[hc] at h;refine aa (m:=field (.ref c) 1) (wpG.any (B0 hoc hdc hq (aa (ac ?_))));exact aa (aJ h (fun binds M0 MO=>aa (aJ MO (fun env M8 MY=>aa (wpG.any (wpAny_enterFrame MY.1 hroom
  (ac (And.intro rfl MY.2))))) fun _ _ h'=>h')) fun _ _ h'=>h')
end
structure NqF (L:Addr→Prop) (σ:Sto) (s:Shared) (M1:Sto) (s':Shared):Prop where
 ev:Ev (fun a=>σ a≠none) L s.heap s'.heap
 nd:∀a,M1 a≠none→σ a≠none∨s.heap.get? a=none
 same:cX s s'
inductive OkF (B:Bs) (F L:Addr→Prop) (σ:Sto) (s:Shared) (K:Kx) (v:Value) (s':Shared):Prop
 |mk (M1:Sto) (d:V) (H:HR B F M1 s'.heap) (N:NqF L σ s M1 s') (r:Rv B (Pr M1 F) s'.heap v d) (k:K d M1)
inductive ErF (B:Bs) (F L:Addr→Prop) (σ:Sto) (s:Shared) (KE:Ke) (ev:Value) (s':Shared):Prop
 |mk (e:Addr) (row col:Int) (M1:Sto) (e1:ev= .ref e) (H:HR B F M1 s'.heap) (N:NqF L σ s M1 s') (x:Ex B (Pr M1 F) s.heap s'.heap e row col) (k:KE row col M1)
def MA (B:Bs) (L F:Addr→Prop) (σ:Sto) (s:Shared) (K:Kx) (KE:Ke) (r:Result) (s':Shared):Prop:=match r with
 |.ok (.ret v)=>OkF B F L σ s K v s'
 |.ok _=>False
 |.error ev=>ErF B F L σ s KE ev s'
structure Room (B:Bs) (A:Around) (outer:List Env) (F:Addr→Prop) (σ:Sto) (s:Shared) (lev:Nat):Prop where
 frames:A.frames=some outer
 priv:∀env∈outer,∀L,env.frame=some L→F L
 handled:A.handled=none
 guards:A.guards=some []
 depth:A.depth+lev+20<recursionLimit
 units:A.units+10*lev+495<cLine
 hr:HR B F σ s.heap
 fal:∀a,F a→(s.heap.get? a).isSome=true∧B.base.get? a=none
 stays:B.base.StaysIn s.heap
 ff:s.heap.FunFrames B.base outer
def eI (B:Bs) (fa:Addr) (lev:Nat) (spec:aP):Prop:=∀(A:Around) (outer:List Env) (F:Addr→Prop) (σ:Sto) (s:Shared) (vs:List Value) (ds:List V) (K:Kx) (KE:Ke),
 Room B A outer F σ s lev→Rvs B (Pr σ F) s.heap vs ds→spec ds σ K KE→bC (model B.prog B.w) A (.call (.ref fa) ⟨vs,[]⟩) (MA B (Ec outer) F σ s K KE) s
section
variable {α β:Type} {KE:Ke} {P:Value→Sto→Shared→Prop}
theorem St.room (hc:c.Ok B) (hh:c.hd=true) (S:St B c m σ s) {lev:Nat} (hl:lev≤c.lev):Room B c.A (c.fenv::c.outer) c.F σ s lev:=
 ⟨hc.frames,hc.priv,(hc.handled hh),hc.guards,by have:=hc.depth;lia,by have:=hc.units;lia,S.hr,S.fal,S.stays,S.ff⟩
theorem NqF.nq {s':Shared} {M1:Sto} (x:NqF c.sl σ s M1 s'):Nq c σ s M1 s':=⟨x.ev,x.nd,x.same⟩
theorem ue (hc:c.Ok B) (hh:c.hd=true) (S:St B c m σ s) {fa:Addr} {lev:Nat} {spec:aP} (hf:eI B fa lev spec) (hl:lev≤c.lev) {vs:List Value} {ds:List V} {K:Kx} (r:Rvs B (Pr σ c.F) s.heap vs ds) (k:spec ds σ K KE):
  Tri B c (call (.ref fa) vs) m σ s (PV B c K) KE:=by
 refine bW (bF (hf c.A _ c.F σ s vs ds K KE (S.room hc hh hl) r k) fun res s' z=>?_);rcases res with ev|(_|_|_|v)<;>first|exact z.elim|skip
 ·obtain⟨e,row,col,M1,rfl,hr,n,x,kk⟩:=z;exact⟨e,row,col,M1,rfl,S.step hc n.nq hr,n.nq,x,kk⟩
 ·obtain⟨M1,d,hr,n,rv,kk⟩:=z;exact⟨M1,S.step hc n.nq hr,n.nq,d,rv,kk⟩
theorem Gx (hc:c.Ok B) (hh:c.hd=true) {xs:XL} {es:List Expr} (hs:bo es=true) (hx:EXs B c Sp gv xs es) {g:Nat} {id:PySem.Str} {fa:Addr} {lev:Nat} (hg:B.mg id=some (.ref fa)) (hki:c.env.kindOf id=some .globalImplicit) (hd:(id==("__debug__":PySem.Str))=false)
  (hk:keepIn B.K (.ref fa)=true) (hf:eI B fa lev (Sp g)) (hl:lev≤c.lev) {np pos:Pos}:EX B c Sp gv (.call g xs) (.Call (.Name id np) es [] pos):=by
 intro m σ s K KE h S;refine aa (wpG.any (dr hc S hg hki hd ?_));refine Tri.callWith hc hs hx (fun h X=>keeps_K hk h X) h S fun vs ds J M0 M3 M6 r k=>?_;exact ue hc hh M3 hf hl r k
theorem Dr (hc:c.Ok B) (hh:c.hd=true) (hK:Ks B) (hb:bg eo=true) (hs:bo es=true) (hn:es.length<30) (hline:(apos.endLine==pos.line)=true)
  (ho:EX B c Sp gv o eo) (hx:EXs B c Sp gv xs es) (hm:findIn B.K (.ref (B.ca (gm g))) name=some (some (.ref fa))) (ht:typeIn B.K (.ref fa)=some (.type "function")) (hnf:name∉flds)
  (hk:keepIn B.K (.ref fa)=true) (hf:eI B fa lev (Sp g)) (hl:lev≤c.lev):EX B c Sp gv (.mcall g o xs) (.Call (.Attribute eo name apos) es [] pos):=by
 intro m σ s K KE h S;refine Tri.meth hb hs hn hline ho h S fun v d J M0 M3 M6 r k=>?_;refine av fun gP gO=>?_;obtain⟨_,dx,rfl,rfl,⟨fs,e⟩,k⟩:=Cz k;refine El r.inv fun x ox z2_ lt hx1 hcl hdx hda _=>?_;subst z2_;refine Iq (M3.hr.ob dx _ e) fun mm vals hns hv hr hu hw=>?_;refine aj (jd hns.ns name) fun od hod hlk=>?_;have hnone:mm name=none:=by
  cases q:mm name with
  |none=>rfl
  |some z=>exact absurd (hw name (by rw[q];exact E4 _)) hnf
 rw[hnone] at hlk;have I:InstAt M0.heap x ox (B.ca (gm g)) (some od):=⟨hx1,hcl,by unfold notCls;rw[hda],by rw[hdx];exact hod⟩;refine gO ?_;refine⟨.ref fa,[.ref x],fun q=>method_fn M3.inK I (hK.get _ lt) (hK.gattr _ lt) hm ht (by show(lookIn name od).map _=_;rw[hlk];rfl) q,?_⟩;refine Tri.callWith hc hs hx (fun h X=>keeps_K hk h X) k M3 fun vs ds M2 M8 M7 MM rs MP=>?_;exact ue hc hh M7 hf hl (.cons (MM.rv hc r) rs) MP
end
section
variable {prog:Program} {w:World} {A:Around} {K:Frag} {C fI:Addr} {R:Result→Shared→Prop} {h:Heap} {g:Array GenState} {d:Drawn} {t:Nat} {os:OsState}
theorem wA (X:K.In h) (hm:makesIn K C=true) (hi:findIn K (.ref C) "__init__"=some (some (.ref fI))) (hf:typeIn K (.ref fI)=some (.type "function"))
  (hq:bC (model prog w) (A.under (.builtin "type.__call__" ⟨.ref C::rest,[]⟩)) (.call (.ref fI) ⟨.ref (h.objs.size+1)::rest,[]⟩) (InitBack (h.objs.size+1) R) ⟨(h.push emptyDict).push (instObj C h.objs.size),g,d,t,os⟩):
  bC (model prog w) A (.call (.ref C) ⟨rest,[]⟩) R ⟨h,g,d,t,os⟩:=by
 refine av fun gP gO=>?_;have Y:=makes_of (M:=model prog w) X hm;have Y':=Y;obtain⟨⟨oc,od,cd,sl,hC,e1,e2,e4⟩,made,base,self,top,call,typ⟩:=Y;have LI:=F0 (M:=model prog w) X hi;refine gO ?_;refine aI rfl ?_;refine aa (wpG.any (D2 hC ?_));refine aa (wpG.any (call.at ?_));refine aa (ac (aa (ac ?_)));refine ac (a:=Fin.again (.call (.builtin "type.__call__") ⟨.ref C::rest,[]⟩)) (And.intro rfl ?_);refine aI rfl ?_;refine aa (wpG.any (@check_slot (model prog w) _ _ _ "type.__call__" "type" "__call__" (.ref C) rest [] _ tc_kind tc_split typ (tc_args _ _ _) ?_));refine ac ⟨F4 _ (by decide+kernel),bZ (by decide+kernel) entry_typeCall ?_⟩;unfold Builtin.«type.__call__»;have hmr:Looks (model prog w) h (mroOf (.ref C)) cd.mro:=((Looks.ld (part:=none) hC).andThen .now).andThen .now;refine bp rfl ?_;refine aa (wpG.any (hmr.at ?_));refine bp e4 ?_;refine aa (wpG.any (made.at ?_));refine aa (ac (aa (ay (bW (bF (bC.any (new_K (R:=fun r s'=>r= .ok (.ret (.ref (h.objs.size+1)))∧s'=⟨(h.push emptyDict).push (instObj C h.objs.size),g,d,t,os⟩) Y' LI (.inl rfl) ⟨rfl,rfl⟩)) fun r s' hr=>?_)))));obtain⟨rfl,rfl⟩:=hr;have k:∀b o,h.get? b=some o→((h.push emptyDict).push (instObj C h.objs.size)).get? b=some o:=fun b o e=>f5 _ (f5 _ e);have hx:((h.push emptyDict).push (instObj C h.objs.size)).get? (h.objs.size+1)=some (instObj C h.objs.size):=by heap_get
 have t1:Looks (model prog w) ((h.push emptyDict).push (instObj C h.objs.size)) (typeOf (.ref (h.objs.size+1))) (.ref C):=(Looks.ld hx).andThen .now;have s1:=self.keeps k;have i1:=LI.keeps k;have b1:=(bind_fn (M:=model prog w) X (.ref (h.objs.size+1)) hf).keeps k;refine aa (wpG.any (c5 (t1.at (s1.at ?_))));refine bp rfl ?_;refine aa (ay (aa (wpG.any (c5 (t1.at (i1.at ?_))))));refine ay (aa (wpG.any (b1.at ?_)));refine aa (bW (bF hq fun r s' z=>?_));rcases r with e|(_|_|_|v)<;>first|exact z|exact z.elim|skip
 obtain⟨rfl,z⟩:=z;refine ac ?_;exact bp (by decide) (ac z)
end
section
variable {α β:Type} {KE:Ke} {P:Value→Sto→Shared→Prop}
theorem gI (σ:Sto) (h:b≠a):σ.del a b=σ b:=by simp[Sto.del,h]
theorem kG (σ:Sto) (a:Nat):σ.del a a=none:=by simp[Sto.del]
theorem Pr.del (p:Pr σ F b):Pr (σ.del a) F b:=by
 refine⟨?_,p.2⟩;by_cases z:b=a
 ·rw[z];exact kG σ a
 ·rw[gI σ z];exact p.1
theorem HR.del (H:HR B F σ h) (a:Addr):HR B F (σ.del a) h:=by
 refine⟨fun b o e=>?_,fun b e=>?_,fun b e=>?_⟩
 all_goals
  have z:b≠a:=fun z=>by subst z;rw[kG] at e;first|cases e|exact e rfl
  rw[gI σ z] at e
 ·exact(H.ob b o e).keep (fun y x p q=>⟨p.del,q⟩) fun _ q=>q
 ·exact H.priv b e
 ·exact H.new b e
theorem Nq.del (x:Nq c σ s M1 s') (a:Addr):Nq c σ s (M1.del a) s':=by
 refine⟨x.ev,fun b e=>?_,x.same⟩;have z:b≠a:=fun z=>by subst z;rw[kG] at e;exact e rfl
 rw[gI M1 z] at e;exact x.nd b e
theorem wa (σ:Sto) (h:Heap) (F:Addr→Prop):RO B (Pr (σ.put h.objs.size (.dict fun _=>.unb)) F) (h.push emptyDict) h.objs.size (.dict fun _=>.unb):=
 ⟨fun _=>none,fun _=>.none,Heap.Ns1.of_empty (Heap.Ns.new h (.type "dict")),fun i q0_=>by obtain⟨z,e,n⟩:=q0_;exact absurd e.symm n,fun i=>.unb _,fun i _ _=>rfl,fun y hy=>absurd rfl hy⟩
theorem ow (A:Around) (C:Addr) (rest:List Value):A.under (.builtin "type.__call__" ⟨.ref C::rest,[]⟩)={A with depth:=A.depth+1,units:=A.units+1}:=by
 obtain⟨hd,d,fr,gs,u⟩:=A;rfl
theorem JU (hc:c.Ok B) (hh:c.hd=true) {xs:XL} {es:List Expr} (hs:bo es=true) (hx:EXs B c Sp gv xs es) {C:Nat} {fz:Bool} {id:PySem.Str} {fa:Addr} {lev:Nat} (hC:C<3) (hg:B.mg id=some (.ref (B.ca C))) (hki:c.env.kindOf id=some .globalImplicit) (hd:(id==("__debug__":PySem.Str))=false)
  (hk:keepIn B.K (.ref (B.ca C))=true) (hm:makesIn B.K (B.ca C)=true) (hi:findIn B.K (.ref (B.ca C)) "__init__"=some (some (.ref fa))) (ht:typeIn B.K (.ref fa)=some (.type "function")) (hf:eI B fa lev (Sp (lh C))) (hl:lev+1≤c.lev) {np pos:Pos}:
  EX B c Sp gv (.new C fz xs) (.Call (.Name id np) es [] pos):=by
 intro m σ s K KE h S;show Tri B c (eval (.Name id np) c.env>>=fun f=>PySem.callWith pos f [] (backTo pos (starEach es c.env)) []) m σ s _ KE;refine aa (wpG.any (dr hc S hg hki hd ?_));refine Tri.callWith hc hs hx (fun h X=>keeps_K hk h X) h S fun vs ds J M0 M3 M6 r k=>?_;have k:=k M0.heap.objs.size M3.fresh.1;have M7:=M3.put_new hc (ob:=emptyDict) (o:=.dict fun _=>.unb) M0.toks (wa J M0.heap c.F);have MM:=Nq.put_new c J M0 emptyDict (.dict fun _=>.unb) M0.toks;have MU:=M7.push hc (instObj (B.ca C) M0.heap.objs.size) M0.toks;have MT:=MM.trans (Nq.push c _ _ (instObj (B.ca C) M0.heap.objs.size) M0.toks);have hsz:(M0.heap.push emptyDict).objs.size=M0.heap.objs.size+1:=Heap.size_push _ _;have hxo:((M0.heap.push emptyDict).push (instObj (B.ca C) M0.heap.objs.size)).get? (M0.heap.objs.size+1)=some (instObj (B.ca C) M0.heap.objs.size):=by
  rw[←hsz];exact i2 _ rfl
 have px:Pr (J.put M0.heap.objs.size (.dict fun _=>.unb)) c.F (M0.heap.objs.size+1):=by
  have:=M7.fresh;rw[←hsz];exact⟨this.1,this.2.1⟩
 have ro:Rv B (Pr (J.put M0.heap.objs.size (.dict fun _=>.unb)) c.F) ((M0.heap.push emptyDict).push (instObj (B.ca C) M0.heap.objs.size)) (.ref (M0.heap.objs.size+1)) (.obj C M0.heap.objs.size):=.obj hC hxo rfl rfl rfl px;refine bW ?_;refine wA (t:=M0.toks) M3.inK hm hi ht ?_;rw[ow];have room:Room B {c.A with depth:=c.A.depth+1,units:=c.A.units+1} (c.fenv::c.outer) c.F (J.put M0.heap.objs.size (.dict fun _=>.unb)) {M0 with heap:=(M0.heap.push emptyDict).push (instObj (B.ca C) M0.heap.objs.size),toks:=M0.toks} lev:=
  ⟨hc.frames,hc.priv,(hc.handled hh),hc.guards,by have:=hc.depth;show c.A.depth+1+lev+20<_;lia,by have:=hc.units;show c.A.units+1+10*lev+495<_;lia,MU.hr,MU.fal,MU.stays,MU.ff⟩
 refine bF (hf _ _ c.F _ _ (.ref (M0.heap.objs.size+1)::vs) (.obj C M0.heap.objs.size::ds) _ KE room (.cons ro (MT.rvs hc r)) k) fun res s' z=>?_;rcases res with ev|(_|_|_|v)<;>first|exact z.elim|skip
 ·obtain⟨e,row,col,M1,rfl,hr,n,x,kk⟩:=z;exact⟨e,row,col,M1,rfl,M3.step hc (MT.trans n.nq) hr,MT.trans n.nq,x.sooner MT.ev.alive,kk⟩
 ·obtain⟨M1,d,hr,n,rv,kk⟩:=z;have N:=MT.trans n.nq;obtain⟨rfl,kk⟩:=yS kk;cases rv.inv;refine⟨rfl,?_⟩;have kx:=n.nq.nx.keep hc _ _ px hxo;cases fz with
  |false=>exact⟨M1,M3.step hc N hr,N,.obj C M0.heap.objs.size,.obj hC kx.2 rfl rfl rfl kx.1,kk⟩
  |true=>
   refine aj (lM kk) fun fs e kk=>?_;refine Iq (hr.ob _ _ e) fun mm vals hns hv hr' hu hw=>?_;have pd:¬c.F M0.heap.objs.size:=hr.priv _ (by rw[e];exact E4 _);exact⟨M1.del M0.heap.objs.size,M3.step hc (N.del _) (hr.del _),N.del _,.fobj C fs,.fobj hC kx.2 rfl rfl rfl kx.1.del ⟨kG _ _,pd⟩ hns.ns hv (fun i=>(hr' i).keep fun y x p q=>⟨p.del,q⟩),kk⟩
end
section
variable {α β:Type} {KE:(Nat→V)→Ke} {K:Kx} {E:Value→Shared→Prop}
theorem CP (hc:c.Ok B) (MS:St B c m σ s) (x:PostS B c σ s KE ev s'):wpAny (model B.prog B.w) c.A (leaving c.env ev) (fun _ s''=>PostS B c σ s KE ev s'') E s':=by
 refine c5 (y2 (x.note hc MS) (fun _ s'' y=>?_) fun _ _ e=>e);refine am y fun z0_ _=>?_;obtain⟨e,row,col,m',M1,rfl,S',N',X,kk⟩:=z0_;exact fD X fun h' w t=>.now hc S' N' MS w kk
theorem Fl (hF:∀a,F a→F' a) (r:Rv B (Pr σ F') h v d):Rv B (Pr σ F) h v d:=r.keep fun a o p e=>⟨⟨p.1,fun z=>p.2 (hF a z)⟩,e⟩
theorem rE (hF:∀a,F a→F' a) (H:HR B F' σ h):HR B F σ h:=
 ⟨fun a o e=>(H.ob a o e).keep (fun y x p q=>⟨⟨p.1,fun z=>p.2 (hF y z)⟩,q⟩) fun _ q=>q,fun a e z=>H.priv a e (hF a z),H.new⟩
theorem Gy (hF:∀a,F a→F' a) (x:Ex B (Pr σ F') MN h e row col):Ex B (Pr σ F) MN h e row col:=by
 have g:∀a,Pr σ F' a→Pr σ F a:=fun a p=>⟨p.1,fun z=>p.2 (hF a z)⟩;obtain⟨oe,vs,d,mm,t,u,a1,a2,a3,a4,a5,a6,a7,a8,a9,a10,a11,a12,a13⟩:=x;exact⟨oe,vs,d,mm,t,u,a1,a2,a3,a4,a5,a6,a7,a8,g _ a9,g _ a10,a11,a12,a13.imp id fun⟨T,oT,ts,b1,b2,b3,b4,b5,b6,b7,b8⟩=>⟨T,oT,ts,b1,b2,b3,b4,b5,g _ b6,b7,b8⟩⟩
end
theorem pZ (hc:c.Ok B):∀(ts:List (Nat×PySem.Str×Bool)) (vs:List Value) (ds:List V) (m m':Nat→V) (s:Shared) (Q:Unit→Shared→Prop),
  (∀x∈ts,x∈c.vars∧(x.2.2=true→c.ck x.2.1))→St B c m σ s→Rvs B (Pr σ c.F) s.heap vs ds→bi (ts.map (·.1)) ds m=some m'→
  (∀s',St B c m' σ s'→Nx c σ s σ s'→Q () s')→wpAny (model B.prog B.w) c.A (assignInOrder (ts.map fun x=>bindName c.env x.2.1) vs) Q E s
 |[],vs,ds,m,m',s,Q,ht,S,r,e,h=>by
  cases r with
  |nil=>cases e;exact e6 (h s S (.refl ..))
  |cons a r=>exact noS e
 |x::ts,vs,ds,m,m',s,Q,ht,S,r,e,h=>by
  cases r with
  |nil=>exact noS e
  |cons a r=>
   obtain⟨i,id,cl⟩:=x;refine c5 (u9 (ir hc (ht _ (.head _)).1 (ht _ (.head _)).2 S a fun s' S' N'=>?_));exact pZ hc ts _ _ _ m' s' Q (fun y hy=>ht y (.tail _ hy)) S' (N'.rvs hc r) e fun s'' S'' N''=>h s'' S'' (N'.trans N'')
theorem gh:∀(names:List (PySem.Str×NameKind)) (k:Nat) (acc:List (PySem.Str×Addr)) (n:PySem.Str),(acc.lookup n).isSome=true→((cellsFrom k names acc).lookup n).isSome=true
 |[],_,_,_,h=>h
 |(name,kind)::r,k,acc,n,h=>by
  unfold cellsFrom
  split
  ·refine gh r _ _ n ?_;simp only[j5]
   split
   ·rfl
   ·exact h
  ·exact gh r _ _ n h
set_option tactic.hygienic true in
theorem cY:∀(names:List (PySem.Str×NameKind)) (k:Nat) (acc:List (PySem.Str×Addr)) (n:PySem.Str),names.lookup n=some .cell→((cellsFrom k names acc).lookup n).isSome=true
 |[],_,_,_,h=>by cases h
 |(name,kind)::r,k,acc,n,h=>by
  simp only[j5] at h;unfold cellsFrom
  split at h
  ·rename_i hb
   obtain rfl:=c7 h;refine gh r _ _ n ?_;rw[j5,hb];rfl
  ·split
   ·exact cY r _ _ n h
   ·exact cY r _ _ n h
theorem hU (r:List (PySem.Str×Value)):((n,v)::r).reverse.lookup x=(r.reverse.lookup x).or (if x=n then some v else none):=by
 refine er l6 ?_;generalize r.reverse=l
 induction l with
 |nil=>
  simp only[y1,j5,List.lookup_nil];by_cases h:x=n
  ·simp[h]
  ·have:(x==n)=false:=by simpa using h
   simp[h,this]
 |cons a l ih=>
  refine er u6 (er j5 (er j5 ?_))
  split
  ·simp
  ·exact ih
theorem uf (hx:k x=some .local):∀(binds:List (PySem.Str×Value)) (m:PySem.Str→Option Value),bindL k binds m x=(binds.reverse.lookup x).or (m x)
 |[],m=>rfl
 |(n,v)::r,m=>by
  unfold bindL;rw[uf hx r,hU,Option.or_assoc];by_cases h:x=n
  ·subst h;simp[hx]
  ·by_cases q:k n=some .local<;>simp[h,q]
theorem ug (hx:k x=some .cell):∀(binds:List (PySem.Str×Value)) (m:PySem.Str→Option Value),bindC k binds m x=(binds.reverse.lookup x).or (m x)
 |[],m=>rfl
 |(n,v)::r,m=>by
  unfold bindC;rw[ug hx r,hU,Option.or_assoc];by_cases h:x=n
  ·subst h;simp[hx]
  ·by_cases q:k n=some .local<;>simp[h,q]
noncomputable def qS (fd:FuncData) (fa:Addr) (A:Around) (outer:List Env) (F:Addr→Prop) (σ:Sto) (s:Shared) (vars:List (Nat×PySem.Str×Bool)) (lev:Nat):FC where
 env:=callEnvC fd s.heap.objs.size fa
 fenv:=callEnvC fd s.heap.objs.size fa
 outer:=outer
 A:=A.deeper (callEnvC fd s.heap.objs.size fa)
 F:=fun a=>F a∨(a=s.heap.objs.size∨∃n,(callEnvC fd s.heap.objs.size fa).cells.lookup n=some a)
 own:=fun a=>a=s.heap.objs.size∨∃n,(callEnvC fd s.heap.objs.size fa).cells.lookup n=some a
 vars:=vars
 lev:=lev
 hd:=true
 cw:=true
 M4:=σ
 NA:=Ec outer
 MW:=s
structure VarsC (fd:FuncData) (vars:List (Nat×PySem.Str×Bool)):Prop where
 kind:∀x∈vars,fd.scope.names.lookup x.2.1=some (if x.2.2=true then .cell else .local)
 inj:∀x∈vars,∀y∈vars,x.1=y.1→x=y
 injn:∀x∈vars,∀y∈vars,x.2.1=y.2.1→x=y
theorem rI {h:Heap} {a:Addr} (e:h.objs.size≤a):h.get? a=none:=by
 cases q:h.get? a with
 |none=>rfl
 |some o=>exact absurd (o6 q) (t8.mpr e)
section
variable {A:Around} {outer:List Env} {F:Addr→Prop} {lev:Nat} {fd:FuncData} {fa:Addr} {vars:List (Nat×PySem.Str×Bool)} {mm cm:PySem.Str→Option Value}
theorem qq (R:Room B A outer F σ s (lev+1)) (Vk:VarsC fd vars) (hk:fd.scope.kind= .function) (hg:fd.globals=mainGlobals) (hb:fd.builtins=builtinsNs)
  (x:InCallC s s.heap.objs.size mm (callEnvC fd s.heap.objs.size fa).cells cm M0):(qS fd fa A outer F σ s vars lev).Ok B where
 kind:=hk
 globals:=hg
 bns:=hb
 frames:=Around.frames_deeper R.frames
 frame:=rfl
 fkind:=hk
 priv:=fun env he L hL=>by
  rcases d0.mp he with rfl|he
  ·right;left;exact(c7 hL).symm
  ·exact .inl (R.priv env he L hL)
 handled:=fun _=>R.handled
 guards:=R.guards
 depth:=by have:=R.depth;show A.depth+1+lev+20<_;lia
 units:=by have:=R.units;show A.units+3+10*lev+500<_;lia
 ownL:=.inl rfl
 ownF:=fun a h=>.inr h
 ownNew:=fun a h=>by
  rcases h with h|⟨n,h⟩
  ·rw[show a=s.heap.objs.size from h];exact bQ _
  ·exact rI (B2 (x.above n a (H8 h)))
 FF:=fun a h=>by
  refine aj h fun env he hL=>?_;rcases d0.mp he with rfl|he
  ·exact .inr (by rw[←c7 hL];exact bQ _)
  ·exact .inl ⟨env,he,hL⟩
 vloc:=fun x hx e=>by have:=Vk.kind x hx;rw[e] at this;exact this
 vcell:=fun y hy e=>by
  have:=Vk.kind y hy;rw[e] at this;refine⟨.inl this,?_⟩;refine ar (d9.mp (cY fd.scope.names (s.heap.objs.size+1) [] y.2.1 this)) fun a ha=>?_;exact⟨a,ha,.inr (.inr ⟨_,ha⟩),fun _=>.inr ⟨_,ha⟩⟩
 cellL:=fun y hy a e h=>fun z=>by
  have:=x.above _ a (H8 h);rw[show a=s.heap.objs.size from z] at this;exact H7 _ this
 inj:=Vk.inj
 injn:=Vk.injn
 injc:=fun y hy z hz e e' h=>by
  refine ar (d9.mp (cY fd.scope.names (s.heap.objs.size+1) [] y.2.1 (by have:=Vk.kind y hy;rw[e] at this;exact this))) fun a ha=>?_;exact Vk.injn y hy z hz (name_of_addr x.apart (H8 ha) (H8 (h▸ha)))
 NZ:=fun a e z=>let ⟨env,he,hL⟩:=z;R.hr.priv a e (R.priv env he a hL)
theorem zo (R:Room B A outer F σ s (lev+1)) (Vk:VarsC fd vars) (hk:fd.scope.kind= .function) (x:InCallC s s.heap.objs.size mm (callEnvC fd s.heap.objs.size fa).cells cm M0) {m:Nat→V}
  (hv:∀y∈vars,m y.1= .unb∨∃v,(if y.2.2=true then cm y.2.1 else mm y.2.1)=some v∧Rv B (Pr σ F) s.heap v (m y.1)):St B (qS fd fa A outer F σ s vars lev) m σ M0:=by
 have keep:=x.toInCall.keep;have dead:∀a,(a=s.heap.objs.size∨∃n,(callEnvC fd s.heap.objs.size fa).cells.lookup n=some a)→s.heap.get? a=none:=fun a h=>by
  rcases h with h|⟨n,h⟩
  ·rw[show a=s.heap.objs.size from h];exact bQ _
  ·exact rI (B2 (x.above n a (H8 h)))
 have al:∀a,(a=s.heap.objs.size∨∃n,(callEnvC fd s.heap.objs.size fa).cells.lookup n=some a)→(M0.heap.get? a).isSome=true:=fun a h=>by
  rcases h with h|⟨n,h⟩
  ·rw[show a=s.heap.objs.size from h];exact dO x.toInCall.ns
  ·obtain⟨o,ho,-⟩:=x.cell n a h;rw[ho];rfl
 have up:∀a o,Pr σ F a→s.heap.get? a=some o→Pr σ (fun a=>F a∨(a=s.heap.objs.size∨∃n,(callEnvC fd s.heap.objs.size fa).cells.lookup n=some a)) a∧M0.heap.get? a=some o:=fun a o p e=>
  ⟨⟨p.1,fun z=>z.elim p.2 fun z=>by rw[dead a z] at e;cases e⟩,keep a o e⟩
 have alive:∀a,(s.heap.get? a).isSome=true→(M0.heap.get? a).isSome=true:=fun a q=>by
  obtain⟨o,ho⟩:=d9.mp q;rw[keep a o ho];rfl
 have bn:∀a,s.heap.get? a=none→B.base.get? a=none:=fun a e=>by
  cases q:B.base.get? a with
  |none=>rfl
  |some o=>have:=R.stays _ o q;rw[e] at this;exact noS this
 refine⟨⟨⟨mm,x.toInCall.ns,fun y hy e=>(hv y hy).imp id fun⟨v,q,r⟩=>⟨v,by rw[e] at q;exact q,r.keep up⟩⟩,fun y hy e a ha=>⟨cm y.2.1,x.cell _ a ha,(hv y hy).imp id fun⟨v,q,r⟩=>⟨v,by rw[e] at q;exact q,r.keep up⟩⟩⟩,
  ⟨fun a o e=>(R.hr.ob a o e).keep up (keep a),fun a e z=>?_,R.hr.new⟩,fun a f=>?_,fun b o e=>keep b o (R.stays b o e),?_,.of_keeps keep,fun a z=>.inl z,?_⟩
 ·rcases z with z|z
  ·exact R.hr.priv a e z
  ·have:=R.hr.alive e;rw[dead a z] at this;exact noT this
 ·rcases f with f|f
  ·exact⟨alive a (R.fal a f).1,(R.fal a f).2⟩
  ·exact⟨al a f,bn a (dead a f)⟩
 ·obtain⟨o,es,ep,ho,hd,-⟩:=x.toInCall.ns;refine⟨(by show fd.scope.kind≠ .module;rw[hk];decide),⟨s.heap.objs.size,o,rfl,bn _ (bQ _),ho,fun vs z=>by rw[hd] at z;cases z⟩,?_⟩;exact jt R.ff fun env he L hL' o q d=>⟨o,keep L o q,d⟩
 ·obtain⟨h,t,e⟩:=x.toInCall.same;rw[e];exact⟨rfl,rfl,rfl⟩
set_option tactic.hygienic true in
theorem mr {Sp:Nat→aP} {gv:Nat→List Nat} {o:Obj} {body:List Stmt} {spec:aP} {x:S} {bind:List Value→List (PySem.Str×Value)} {slots:List V→Nat→V} (ho:B.K.lookup fa=some o) (hdata:o.data= .func fd) (hcd:codeIn B.K fd.code fd.qualname=true) (hbody:fd.body= .stmts body)
  (Vk:VarsC fd vars) (hk:fd.scope.kind= .function) (hg:fd.globals=mainGlobals) (hb:fd.builtins=builtinsNs) (hclo:fd.closure=[]) (hco:fd.scope.isCoroutine=false) (hgen:fd.scope.isGenerator=false)
  (hbind:∀(s:Shared) vs ds (P:Addr→Prop),B.K.In s.heap→Rvs B P s.heap vs ds→(∃σ K KE,spec ds σ K KE)→BindsTo s fd ⟨vs,[]⟩ (bind vs)∧(∀y∈bind vs,fd.scope.names.lookup y.1=some .local∨fd.scope.names.lookup y.1=some .cell)∧
   ∀y∈vars,slots ds y.1= .unb∨∃v,(bind vs).reverse.lookup y.2.1=some v∧Rv B P s.heap v (slots ds y.1))
  (hspec:∀ds σ K KE,spec ds σ K KE→vcS Sp gv x (slots ds) σ (fun _ M1=>K .none M1) K (fun _ _=>False) (fun _ _=>False) (fun _=>KE))
  (hs:∀(c:FC),c.Ok B→c.hd=true→c.cw=true→c.vars=vars→c.lev=lev→(∃L,c.env=callEnvC fd L fa)→ES B c Sp gv x body):eI B fa (lev+1) spec:=by
 intro A outer F σ s vs ds K KE R rs k;have inK:B.K.In s.heap:=fun a o e=>R.stays a o (B.inK a o e);have q7:=hbind s vs ds _ inK rs ⟨σ,K,KE,k⟩;refine jo (by have:=R.depth;lia) (inK _ _ ho) hdata hco hgen hbody (codeRec_of inK hcd) (wpG.any (q7.1 _ _ _ _ ?_));refine er hclo ?_;refine wpG.any (wpAny_newFunctionEnv_cells hk (fun y hy=>(q7.2.1 y hy).imp id fun h=>⟨h,cY _ _ _ _ h⟩) fun env he M0 ic=>?_);subst he;have X:InCallC s s.heap.objs.size _ (callEnvC fd s.heap.objs.size fa).cells _ M0:=ic;refine⟨(B.nolimit.keeps R.stays).keeps X.toInCall.keep,wB ?_⟩;have S:=zo (fa:=fa) (m:=slots ds) R Vk hk X fun y hy=>(q7.2.2 y hy).imp id fun⟨v,q,r⟩=>⟨v,by
  have hki:=Vk.kind y hy
  split
  ·rename_i e
   rw[i7 e] at hki;exact(ug (k:=(callEnvC fd s.heap.objs.size fa).kindOf) hki _ _).trans (by rw[q];rfl)
  ·rename_i e
   rw[i3 e] at hki;exact(uf (k:=(callEnvC fd s.heap.objs.size fa).kindOf) hki _ _).trans (by rw[q];rfl),r⟩
 have hF:∀a,F a→(qS fd fa A outer F σ s vars lev).F a:=fun a f=>.inl f;have back:∀{m':Nat→V} {M1:Sto} {s':Shared},St B (qS fd fa A outer F σ s vars lev) m' M1 s'→NqF (Ec outer) σ s M1 s':=fun S'=>⟨S'.ev,S'.nd,S'.same⟩;refine aJ (hs _ (qq (fa:=fa) (vars:=vars) R Vk hk hg hb X) rfl rfl rfl rfl ⟨_,rfl⟩ _ _ _ _ _ _ _ _ (hspec _ _ _ _ k) S) (fun fl s' ⟨m',M1,S',N',z⟩=>?_) fun ev s' x=>?_
 ·induction fl with
  |next=>exact⟨M1,.none,rE hF S'.hr,back S',.none,z⟩
  |ret v=>obtain⟨d,r,z⟩:=z;exact⟨M1,d,rE hF S'.hr,back S',Fl hF r,z⟩
  |brk=>exact z.elim
  |cont=>exact z.elim
 ·refine wpG.any (y2 (CP (qq (fa:=fa) (vars:=vars) R Vk hk hg hb X) S x) (fun _ s'' y=>?_) fun _ _ e=>e);obtain⟨e,row,col,m',M1,rfl,S',N',Xe,kk⟩:=y;exact⟨e,row,col,M1,rfl,rE hF S'.hr,back S',(Gy hF Xe).sooner (fun a q=>by obtain⟨o,ho⟩:=d9.mp q;rw[X.toInCall.keep a o ho];rfl),kk⟩
end
noncomputable abbrev jq:List Value:=[.type "Exception",.type "BaseException",.type "object"]
noncomputable abbrev il (C t:Addr):Obj:={cls:=.ref C,data:=.fields #[.ref t,.none,.none,.none,.bool false,.none]}
def XC (K:Frag) (C W:Addr):Prop:=∃nm q N bs hdct sn sub ab col dd k0 k1 k2 k3 k5,K.lookup C=some (excClassObj nm q C N bs (.ref W::jq) hdct sn sub ab col dd k0 k1 k2 k3 k5 "Exception.__new__")
section
variable {prog:Program} {w:World} {A:Around} {R:Result→Shared→Prop} {h:Heap} {g:Array GenState} {d:Drawn} {t:Nat} {os:OsState}
variable {nm q:PySem.Str} {C N W:Addr} {bs:List Value} {hdct:Bool} {sn:List PySem.Str} {sub:List Value} {ab:Bool} {col:Option Bool} {dd:Option Addr} {k0 k1 k2 k3 k5:Option Value}
theorem ip (C W:Addr) (T:String) (e:(jq.contains (.type T))=b):(Value.ref C:: .ref W::jq).contains (.type T)=b:=by
 rw[x5,x5,e];rfl
theorem yn (W:Addr):(Value.ref W::jq).contains (.type "Exception")=true:=by
 rw[x5];rfl
theorem pI (hC:h.get? C=some (excClassObj nm q C N bs (.ref W::jq) hdct sn sub ab col dd k0 k1 k2 k3 k5 "Exception.__new__"))
  (hq:Q () ⟨h,g,d,t,os⟩):wpAny M A (checkBuiltinCall "Exception.__new__" ⟨.ref C::rest,[]⟩) Q E ⟨h,g,d,t,os⟩:=by
 exact wpAny_check_new_subU A6 (yn W) .base hC hq
theorem Gn (hC:h.get? C=some (excClassObj nm q C N bs (.ref W::jq) hdct sn sub ab col dd k0 k1 k2 k3 k5 "Exception.__new__"))
  (hq:R (.ok (.ret (.ref (h.objs.size+1)))) ⟨(h.push {cls:=.type "tuple",data:=.seq rest.toArray}).push (il C h.objs.size),g,d,t,os⟩) (hrest:rest.length≤sizeLine):
  codeAny (model prog w) A (.builtin "Exception.__new__" ⟨.ref C::rest,[]⟩) R ⟨h,g,d,t,os⟩:=by
 have Fn:=A6;have hends:=Fn.ends;refine codeAny_builtinAt Fn.entry ?_;refine PySem.wpAt_bind ?_;refine PySem.wpAt_bind (PySem.wpAt_stack fun p below=>PySem.wpAt_of_wpAny ?_)
 wp_walk
 refine PySem.wpAt_of_wpAny ?_;refine er Fn.owner ?_
 repeat (first|with_reducible refine wpAny_madeHere_exc Fn.canon hC ?_|with_reducible refine C7 hC ?_|(with_reducible refine E5 hC ?_;first|rw[(ip C W "Exception" (b:=true) (by decide+kernel))]|rw[(ip C W "AttributeError" (b:=false) (by decide+kernel))]|rw[(ip C W "NameError" (b:=false) (by decide+kernel))])|wp_step)
 show R _ _;rw[Heap.size_push];exact hq
theorem pJ {K:Frag} {fI:Addr} {rest:List Value} (X:K.In h) (hc:XC K C W) (hcall:specialIn K (.ref C) "__call__"=some (some (.builtin "type.__call__"))) (htyp:instIn K (.ref C) (.type "type")=some true)
  (hi:findIn K (.ref C) "__init__"=some (some (.ref fI))) (hf:typeIn K (.ref fI)=some (.type "function")) (hrest:rest.length≤sizeLine)
  (hq:bC (model prog w) (A.under (.builtin "type.__call__" ⟨.ref C::rest,[]⟩)) (.call (.ref fI) ⟨.ref (h.objs.size+1)::rest,[]⟩) (InitBack (h.objs.size+1) R) ⟨(h.push {cls:=.type "tuple",data:=.seq rest.toArray}).push (il C h.objs.size),g,d,t,os⟩):
  bC (model prog w) A (.call (.ref C) ⟨rest,[]⟩) R ⟨h,g,d,t,os⟩:=by
 refine av fun gP gO=>?_;obtain⟨nm,q,N,bs,hdct,sn,sub,ab,col,dd,k0,k1,k2,k3,k5,hC0⟩:=hc;have hC:=X _ _ hC0;have LI:=F0 (M:=model prog w) X hi;have call:=looks_specialIn (M:=model prog w) X hcall;have typ:=looks_instIn (M:=model prog w) X htyp;refine gO ?_;refine aI rfl ?_;refine aa (wpG.any (D2 hC ?_));refine aa (wpG.any (call.at ?_));refine aa (ac (aa (ac ?_)));refine ac (a:=Fin.again (.call (.builtin "type.__call__") ⟨.ref C::rest,[]⟩)) (And.intro rfl ?_);refine aI rfl ?_;refine aa (wpG.any (@check_slot (model prog w) _ _ _ "type.__call__" "type" "__call__" (.ref C) rest [] _ tc_kind tc_split typ (tc_args _ _ _) ?_));refine ac ⟨F4 _ (by decide+kernel),bZ (by decide+kernel) entry_typeCall ?_⟩;unfold Builtin.«type.__call__»;refine bp rfl ?_;refine aa (wpG.any ((((Looks.ld (part:=none) hC).andThen .now).andThen .now:Looks (model prog w) h (mroOf (.ref C)) (.ref C:: .ref W::jq)).at ?_));refine bp rfl ?_;refine aa (wpG.any (wpAny_madeBy_exc hC ?_));refine aa (ac (aa (ay (bW (bF (bC.any (codeAny_call_builtin_code (F4 _ A6.quiet) (pI hC (Gn (R:=fun r s'=>r= .ok (.ret (.ref (h.objs.size+1)))∧s'=⟨(h.push {cls:=.type "tuple",data:=.seq rest.toArray}).push (il C h.objs.size),g,d,t,os⟩) hC ⟨rfl,rfl⟩ hrest)))) fun r s' hr=>?_)))));obtain⟨rfl,rfl⟩:=hr;have k:∀b o,h.get? b=some o→((h.push {cls:=.type "tuple",data:=.seq rest.toArray}).push (il C h.objs.size)).get? b=some o:=fun b o e=>f5 _ (f5 _ e);have hx:((h.push {cls:=.type "tuple",data:=.seq rest.toArray}).push (il C h.objs.size)).get? (h.objs.size+1)=some (il C h.objs.size):=by heap_get
 have t1:Looks (model prog w) ((h.push {cls:=.type "tuple",data:=.seq rest.toArray}).push (il C h.objs.size)) (typeOf (.ref (h.objs.size+1))) (.ref C):=(Looks.ld hx).andThen .now;have hcC:(Value.ref C:: .ref W::jq).contains (.ref C)=true:=by simp
 refine aa (wpG.any (c5 (t1.at (E5 (k _ _ hC) ?_))));refine er hcC ?_;refine bp rfl ?_;refine aa (ay (aa (wpG.any (c5 (t1.at ((LI.keeps k).at ?_))))));refine ay (aa (wpG.any (((bind_fn (M:=model prog w) X (.ref (h.objs.size+1)) hf).keeps k).at ?_)));refine aa (bW (bF hq fun r s' z=>?_));rcases r with e|(_|_|_|v)<;>first|exact z|exact z.elim|skip
 obtain⟨rfl,z⟩:=z;refine ac ?_;exact bp (by decide) (ac z)
end
structure XO (C:Addr) (MN:Heap) (e:Addr) (od:Option Addr) (mm:PySem.Str→Option Value) (h:Heap):Prop where
 obj:∃a0,h.get? e=some {cls:=.ref C,dict:=od,data:=.fields #[a0,.none,.none,.none,.bool false,.none]}
 dict:match od with
  |none=>∀n,mm n=none
  |some d=>h.Ns1 d mm∧d≠e∧MN.get? d=none
 within:Within mm flds
 keep:∀b o,MN.get? b=some o→h.get? b=some o
 fresh:MN.get? e=none
def Oth (e:Addr) (od:Option Addr) (h h':Heap):Prop:=∀b o,b≠e→some b≠od→h.get? b=some o→h'.get? b=some o
def kW (h:Heap) (od od':Option Addr):Prop:=od'=od∨(od=none∧∃d,od'=some d∧h.get? d=none)
theorem Oth.trans (a:Oth e od h MO) (g:kW h od od') (b:Oth e od' MO MY):Oth e od h MY:=by
 intro x o n1 n2 q;refine b x o n1 ?_ (a x o n1 n2 q);rcases g with rfl|⟨rfl,d,rfl,hd⟩
 ·exact n2
 ·intro z;cases z;rw[q] at hd;exact noS hd.symm
theorem kW.trans (a:kW h od Od) (k:∀b,(h.get? b).isSome=true→(MO.get? b).isSome=true) (b:kW MO Od Nl):kW h od Nl:=by
 rcases a with rfl|⟨rfl,d,rfl,hd⟩
 ·rcases b with rfl|⟨rfl,d,rfl,hd⟩
  ·exact .inl rfl
  ·refine .inr ⟨rfl,d,rfl,?_⟩;cases q:h.get? d with
   |none=>rfl
   |some o=>exact(bJ (k d (by rw[q];rfl)) hd).elim
 ·rcases b with rfl|⟨e,-⟩
  ·exact .inr ⟨rfl,d,rfl,hd⟩
  ·exact noS e.symm
theorem Oth.alive (a:Oth e od h h') (x:XO C MN e od' mm' h') (g:kW h od od'):∀b,(h.get? b).isSome=true→(h'.get? b).isSome=true:=by
 intro b q;refine ar (d9.mp q) fun o ho=>?_;by_cases z:b=e
 ·obtain⟨a0,h1⟩:=x.obj;rw[z,h1];rfl
 ·by_cases y:some b=od
  ·rcases g with rfl|⟨rfl,-⟩
   ·subst y;have:=x.dict;exact dO this.1.ns
   ·exact noS y.symm
  ·rw[a b o z y ho];rfl
section
variable {prog:Program} {w:World} {A:Around} {E:Value→Shared→Prop} {K:Frag} {C W e:Addr} {MN:Heap} {od:Option Addr} {mm:PySem.Str→Option Value}
theorem FH {R:Result→Shared→Prop} {x:Addr} {ox:Obj} {od:Option Obj} {name:PySem.Str} {tk:Tok} {v:Value} (X:K.In s.heap) (I:InstAt s.heap x ox C od) (hc:XC K C W) (ht:takerIn K C name=some none)
  (h:∀b,wpAny (model prog w) A.in1 (Builtin.ObjectAttr.storeInOwnDict (.ref x) (.ref C) (.str name tk) name v b)
   (fun fin s'=>match fin with|.done f=>R (.ok f) s'|.again c'=>c'.quiet=true∧codeAny (model prog w) A c' R s') (fun e s'=>R (.error e) s') s):
  codeAny (model prog w) A (.call (.builtin "object.__setattr__") ⟨[.ref x,.str name tk,v],[]⟩) R s:=by
 have SF:=PySem.F.store_object;obtain⟨nm,q,N,bs,hdct,sn,sub,ab,col,dd,k0,k1,k2,k3,k5,hC0⟩:=hc;have hc':clsIn K C=some {name:=nm,bases:=bs,mro:=.ref C:: .ref W::jq,ns:=N,qualname:=q,hasDict:=hdct,slotNames:=sn,subclasses:=sub,abstract:=ab,collection:=col,hasDel:=false}:=by unfold clsIn;rw[hC0]
 refine codeAny_call_builtin SF.slot.plain SF.entry (@check_slot (model prog w) _ _ s "object.__setattr__" "object" "__setattr__" (.ref x) [.str name tk,v] [] _ SF.kind SF.split (I.type.andThen (looks_mroIn X (by unfold mroIn;rw[hc',Option.bind_some];simp))) (SF.args (.ref x) (.str name tk) v) ?_);refine av fun gP gO=>?_;refine aj (Option.bind_eq_some_iff.mp ht) fun attr ha hr=>?_;have L3:Looks (model prog w) s.heap (Builtin.ObjectAttr.storeTaker? attr) none:=by
  induction attr with
  |none=>exact .now
  |some a=>
   refine aj (i8.mp hr) fun b hb hr=>?_;refine(looks_takesIn X hb).andThen ?_
   induction b with
   |true=>exact noS hr.symm
   |false=>exact .now
 refine gO ?_;rw[osa_eq,refuse_eq];refine c5 (c5 (I.type.here (c5 (((looks_clsIn X hc').andThen .now:Looks (model prog w) s.heap (mroOf (.ref C)) (.ref C:: .ref W::jq)).here ?_))));refine e6 (c5 (I.type.here (c5 ((F0 X ha).here (c5 (L3.here ?_))))));exact h _
theorem XO.inst (x:XO C MN e od mm s.heap):∃ox oo,InstAt s.heap e ox C oo∧ox.dict=od∧∃a0,ox={cls:=.ref C,dict:=od,data:=.fields #[a0,.none,.none,.none,.bool false,.none]}:=by
 refine ar x.obj fun a0 ho=>?_
 induction od with
 |none=>exact⟨_,none,⟨ho,rfl,rfl,trivial⟩,rfl,a0,rfl⟩
 |some d=>
  refine ar (d9.mp (dO x.dict.1.ns)) fun od' hod=>?_;exact⟨_,some od',⟨ho,rfl,rfl,hod⟩,rfl,a0,rfl⟩
theorem ou (hf:f<9) (v:Value) (hw:Within mm flds):Within (fun n=>if n=aq f then some v else mm n) flds:=fun y hy=>by
 by_cases z:y=aq f
 ·rw[z];exact r6 (B1.mpr hf)
 ·refine hw y fun q=>hy ?_;dsimp only;rw[i3 z];exact q
theorem rj {f:Nat} {v:Value} {Q:Unit→Shared→Prop} (hf:f<9) (X:K.In s.heap) (hc:XC K C W) (hdct:hasDictIn K C=true) (hs:findIn K (.ref C) "__setattr__"=some (some (.builtin "object.__setattr__"))) (ht:takerIn K C (aq f)=some none)
  (x:XO C MN e od mm s.heap) (h:∀h' od' tk,XO C MN e od' (fun n=>if n=aq f then some v else mm n) h'→Oth e od s.heap h'→kW s.heap od od'→Q () {s with heap:=h',toks:=tk}):
  wpAny (model prog w) A (setAttr (.ref e) (aq f) v) Q E s:=by
 refine av fun gP gO=>?_;obtain⟨ox,oo,I,hdx,a0,hox⟩:=x.inst;refine gO ?_;refine set_plain X I hs ?_;refine FH (s:={s with toks:=s.toks+1}) X I hc ht fun b=>?_;refine aj (any_some (show(clsIn K C).any (·.hasDict)=true from hdct)) fun cd hcd hd'=>?_;have he:=I.at_;subst hox;refine c5 (e6 (c5 (c5 (wpAny_loadPart he (c5 (Looks.here (s:={s with toks:=s.toks+1}) (looks_clsIn X hcd) ?_))))));refine er hd' ?_;have cnt:∀{h':Heap} {d:Addr},h'.Ns1 d (fun n=>if n=aq f then some v else mm n)→∃o,h'.get? d=some o∧∃es n,o.data= .dict es n∧es.size≤10:=by
  intro h' d hns;refine eB (hns.count (x.within.cons (aq f) v)) fun oc2 es2 ep2 hoc2 hod2 hsz2=>?_;exact⟨oc2,hoc2,es2,ep2,hod2,hsz2⟩
 induction od with
 |some d=>
  refine e6 (a:=some d) (c5 (e6 (c5 ?_)));refine wpAny_nsSet1 (s:={s with toks:=s.toks+1}) x.dict.1 fun h' hns hsb=>?_;obtain⟨oc2,hoc2,es2,ep2,hod2,hsz2⟩:=cnt hns;refine c5 (I0 hoc2 (by
   refine er hod2 ?_;refine pastItsLine_dict ?_;rw[H4];lia) ?_)
  refine e6 ?_;refine h h' (some d) _ ⟨⟨a0,(hsb.2 e (v8 x.dict.2.1)).trans he⟩,⟨hns,x.dict.2.1,x.dict.2.2⟩,ou hf v x.within,fun b o q=>(hsb.2 b fun z=>by rw[z,x.dict.2.2] at q;cases q).trans (x.keep b o q),x.fresh⟩ (fun b o _ n2 q=>(hsb.2 b fun z=>n2 (congrArg _ (z))).trans q) (.inl rfl)
 |none=>
  have hmm:∀n,mm n=none:=x.dict;have hes:e≠s.heap.objs.size:=s9 (o6 he);have h1:(s.heap.push emptyDict).get? e=some {cls:=.ref C,dict:=none,data:=.fields #[a0,.none,.none,.none,.bool false,.none]}:=f5 _ he;have h2:((s.heap.push emptyDict).update e fun o=>{o with dict:=some s.heap.objs.size}).get? e=some {cls:=.ref C,dict:=some s.heap.objs.size,data:=.fields #[a0,.none,.none,.none,.bool false,.none]}:=by
   exact er (C8 _ h1 rfl) rfl
  have h3:∀b,b≠e→((s.heap.push emptyDict).update e fun o=>{o with dict:=some s.heap.objs.size}).get? b=(s.heap.push emptyDict).get? b:=fun b hb=>r4 _ _ (v8 hb);have hd0:MN.get? s.heap.objs.size=none:=by
   cases q:MN.get? s.heap.objs.size with
   |none=>rfl
   |some o=>have:=x.keep _ o q;rw[bQ] at this;exact noS this
  have hn:((s.heap.push emptyDict).update e fun o=>{o with dict:=some s.heap.objs.size}).Ns1 s.heap.objs.size mm:=by
   have e0:=funext hmm;exact e0▸((Heap.Ns1.of_empty (Heap.Ns.new s.heap (.type "dict"))).at fun o q=>(h3 _ (v8 hes)).trans q)
  refine c5 (wpAny_alloc (c5 (wpAny_update h1 ?_)));refine e6 (a:=some s.heap.objs.size) (c5 (e6 (c5 ?_)));refine wpAny_nsSet1 (s:={s with heap:=(s.heap.push emptyDict).update e fun o=>{o with dict:=some s.heap.objs.size},toks:=s.toks+1}) hn fun h' hns hsb=>?_;obtain⟨oc2,hoc2,es2,ep2,hod2,hsz2⟩:=cnt hns;refine c5 (I0 hoc2 (by
   refine er hod2 ?_;refine pastItsLine_dict ?_;rw[H4];lia) ?_)
  refine e6 ?_;have oth:∀b o,b≠e→s.heap.get? b=some o→h'.get? b=some o:=fun b o n1 q=>by
   simp only[hsb.2 b (s9 (o6 q)),h3 b n1];exact f5 _ q
  refine h h' (some s.heap.objs.size) _ ⟨⟨a0,(hsb.2 e hes).trans h2⟩,⟨hns,v8 hes,hd0⟩,ou hf v x.within,fun b o q=>oth b o (fun z=>by have:=x.fresh;rw[←z,q] at this;cases this) (x.keep b o q),x.fresh⟩ (fun b o n1 _ q=>oth b o n1 q) (.inr ⟨rfl,_,rfl,bQ _⟩)
theorem Dc (X:K.In s.heap) (hc:XC K C W) (x:XO C MN e od mm s.heap) (h:∀h',XO C MN e od mm h'→Oth e od s.heap h'→Q .none {s with heap:=h'}):
  wpAny (model prog w) A (call (.builtin "Exception.__init__") [.ref e,v]) Q E s:=by
 refine av fun gP gO=>?_;have F:=A6;obtain⟨nm,q,N,bs,hdct,sn,sub,ab,col,dd,k0,k1,k2,k3,k5,hC0⟩:=hc;have hC:=X _ _ hC0;refine ar x.obj fun a0 he=>?_;obtain⟨hp,g,d,tk,os⟩:=s;have chk:∀{M:Model} {A:Around} {E:Value→Shared→Prop} {Q:Unit→Shared→Prop},Q () ⟨hp,g,d,tk,os⟩→wpAny M A (checkBuiltinCall "Exception.__init__" ⟨[.ref e,v],[]⟩) Q E ⟨hp,g,d,tk,os⟩:=by
  intro M A E Q hq;simp only[checkBuiltinCall,F.initKind,F.initSplit,F.initRow]
  repeat (first|(with_reducible refine C7 he ?_)|with_reducible refine C7 hC ?_|(with_reducible refine E5 hC ?_;rw[(ip C W "Exception" (b:=true) (by decide+kernel))])|wp_step)
  exact hq
 refine gO ?_;refine wpAny_call (codeAny_call_builtin F.init.plain F.initEntry (chk ?_));have N8:=f5 (h:=hp) {cls:=.type "tuple",data:=.seq #[v]} he;refine c5 (y5 (c5 (c5 (B0 N8 rfl (by rfl) (c5 (wpAny_setField N8 rfl (by show 0<6;decide) ?_))))) (by size_fits));have fin:Q .none ⟨(hp.push {cls:=.type "tuple",data:=.seq #[v]}).update e (Obj.mapFields (·.setIfInBounds 0 (Value.ref hp.objs.size))),g,d,tk,os⟩:=by
  have g2:∀b o,b≠e→hp.get? b=some o→((hp.push {cls:=.type "tuple",data:=.seq #[v]}).update e (Obj.mapFields (·.setIfInBounds 0 (Value.ref hp.objs.size)))).get? b=some o:=fun b o n q=>
   (r4 _ _ (v8 n)).trans (f5 _ q)
  refine h _ ⟨⟨.ref hp.objs.size,(kf N8 rfl (·.setIfInBounds 0 (Value.ref hp.objs.size)) rfl)⟩,?_,x.within,fun b o q=>g2 b o (fun z=>by have:=x.fresh;rw[←z,q] at this;cases this) (x.keep b o q),x.fresh⟩ fun b o n1 _ q=>g2 b o n1 q;have xd:=x.dict
  induction od with
  |none=>exact xd
  |some dx=>exact⟨xd.1.at fun o q=>g2 dx o xd.2.1 q,xd.2⟩
 clear N8 he;cases a0<;>first|exact wpAny_letGo (e6 fin)|exact e6 (e6 fin)
end
structure FnK (K:Frag) (fa:Addr) (fd:FuncData) (body:List Stmt):Prop where
 obj:∃o,K.lookup fa=some o∧o.data= .func fd
 code:codeIn K fd.code fd.qualname=true
 body:fd.body= .stmts body
 kind:fd.scope.kind= .function
 globals:fd.globals=mainGlobals
 builtins:fd.builtins=builtinsNs
 nocell:∀x∈fd.scope.names,x.2≠ .cell
 co:fd.scope.isCoroutine=false
 gen:fd.scope.isGenerator=false
 keep:keepIn K (.ref fa)=true
section
variable {M:Model} {A:Around} {E:Value→Shared→Prop} {env:Env}
theorem My (n1:az e1=true) (n2:az e2=true) (h1:∀{Q:Value→Shared→Prop},Q v1 s→wpAny M A (eval e1 env) Q E s) (h2:∀{Q:Value→Shared→Prop},Q v2 s→wpAny M A (eval e2 env) Q E s)
  (h:Q ⟨[v1,v2],[]⟩ s):wpAny M A (evalArgs f true (backTo pos (starEach [e1,e2] env)) []) Q E s:=by
 refine er (bY n1) (er (bY n2) ?_);show wpAny M A ((eval e1 env>>=fun v=>Pure.pure [v]>>=fun here=>holding here (eval e2 env>>=fun v=>Pure.pure [v]>>=fun here=>holding here (Pure.pure [])>>=fun r=>Pure.pure (here++r))>>=fun r=>Pure.pure (here++r))>>=_) Q E s;refine c5 (c5 (h1 (c5 (e6 (c5 (u9 (c5 (h2 (c5 (e6 (c5 (u9 (e6 (e6 (e6 ?_)))))))))))))));refine u9 ?_;exact c5 (e6 (c5 (e6 (e6 h))))
theorem oU (hb:bg eo=true) (n1:az e1=true) (n2:az e2=true) (hline:(apos.endLine==pos.line)=true)
  (ho:∀{Q:Value→Shared→Prop},Q o s→wpAny M A (eval eo env) Q E s) (hm:∀{pl:Sem Bool} {Q:Value×List Value→Shared→Prop},(∀t,Q (f,[]) {s with toks:=t})→wpAny M A (getMethod o name pl) Q E s)
  (h1:∀{Q:Value→Shared→Prop} t,Q v1 {s with toks:=t}→wpAny M A (eval e1 env) Q E {s with toks:=t}) (h2:∀{Q:Value→Shared→Prop} t,Q v2 {s with toks:=t}→wpAny M A (eval e2 env) Q E {s with toks:=t})
  (hk:qB M s.heap f) (h:∀t,wpAny M A (call f [v1,v2]) Q E {s with toks:=t}):wpAny M A (eval (.Call (.Attribute eo name apos) [e1,e2] [] pos) env) Q E s:=by
 rw[arm_eval_Call,jM hb];refine c5 (ho (c5 (B6 ?_)));have hs:bo [e1,e2]=true:=by simp[bo,n1,n2]
 have hform:methodCallForm (([e1,e2]:List Expr).length+([]:List Keyword).length) (backTo pos (starEach [e1,e2] env)) (backToKw pos (keywordEach [] env))=true:=by
  unfold methodCallForm;refine er (lC hs) ?_;rfl
 have hpos:methodCallPos true eo env apos pos=Pure.pure pos:=by unfold methodCallPos;simp[hline]
 unfold methodCall;refine er hform ?_;refine c5 (u9 (hm fun t=>?_));refine c5 (A9 hpos ?_);refine callWith_of (P:=fun h=>h=s.heap) (by rw[iY hs];rfl) (fun h e=>e▸hk) (My n1 n2 (h1 t) (h2 t) ⟨rfl,h t⟩)
end
section
variable {prog:Program} {w:World} {A:Around} {E:Value→Shared→Prop} {K:Frag} {env:Env} {mm:PySem.Str→Option Value}
theorem gb (hk:env.scope.kind= .function) (hn:s.heap.Ns env.locals mm) (hl:env.kindOf n=some .local) (hv:mm n=some v) (hd:(n==("__debug__":PySem.Str))=false) (h:Q v s):
  wpAny M A (eval (.Name n pos) env) Q E s:=wpAny_Name (wpAny_loadName_local hk hl hn hv h) hd
theorem sm (X:K.In s.heap) (h:∀t,Q (.builtin "Exception.__init__",[]) {s with toks:=t}):wpAny (model prog w) A (getMethod (.type "Exception") "__init__" pl) Q E s:=by
 have hstub:opaqueClassAbove (.type "Exception")=pure none:=by unfold opaqueClassAbove;dsimp only;rw[show Manifest.isStub "Exception"=false by decide+kernel];rfl
 have L0:Looks (model prog w) s.heap (typeOf (.type "Exception")) (.type "type"):=Looks.of_pure (by kernel_rfl);have hg:findIn K (.type "type") "__getattribute__"=some (some (.builtin "type.__getattribute__")):=type_tga;refine c5 (c5 (L0.here ((F0 X hg).here ?_)));refine c5 (y2 (Q:=fun v=>Q (v,[])) (E:=E) ?_ (fun _ _ z=>e6 z) fun _ _ z=>z);have LO:Looks (model prog w) s.heap (opaqueClassAbove (.type "Exception")) none:=Looks.of_pure hstub;refine cls_open X LO L0 hg (looks_hook X (r:=none) (by rfl)) (by show subIn K _ _=_;rfl) (r:=.val (.builtin "Exception.__init__")) (by kernel_rfl)
  (e6 (by show wpAny _ _ (handedOut _) _ _ _;rw[handedOut_of rfl];exact e6 (h _)))
end
section
variable {M:Model} {A:Around} {E:Value→Shared→Prop} {env:Env}
theorem nT (hn:cZ ee=true) (he:∀{Q:Value→Shared→Prop},Q v s→wpAny M A (eval ee env) Q E s) (ho:∀{Q:Value→Shared→Prop},Q ov s→wpAny M A (eval eo env) Q E s)
  (h:wpAny M A (setAttr ov name v) (fun _ s'=>Q .next s') E s):wpAny M A (exec (.Assign [.Attribute eo name ap] ee pos) env) Q E s:=by
 refine er (F6 _ _ _ _ _ (eZ hn)) ?_;refine c5 (B6 (c5 (he ?_)));refine c5 (c5 (u9 (ho ?_)));refine c5 (B6 (c5 (u9 (y2 h (fun _ s' q=>?_) fun _ _ z=>z))));exact wpAny_release' (e6 q)
theorem qt (hk:env.scope.kind= .function) (hn:cZ ee=true) (he:wpAny (model prog w) A (eval ee env) (fun _ s'=>Q .next s') E s):wpAny (model prog w) A (exec (.Expr ee pos) env) Q E s:=by
 refine er (PySem.exec_Expr _ _ _ (by unfold interactive;rw[hk];rfl) (eZ hn)) ?_;refine c5 (B6 (c5 (y2 he (fun v s' q=>?_) fun _ _ z=>z)));exact wpAny_dropValue q
theorem lw (h:wpAny M A (exec a env) (fun f s'=>f= .next∧wpAny M A (execs (b::rest) env) Q E s') E s):wpAny M A (execs (a::b::rest) env) Q E s:=by
 refine c5 (y2 h (fun f s' ⟨q,z⟩=>?_) fun _ _ z=>z);subst q;exact z
theorem qj (h:wpAny M A (exec a env) (fun f s'=>f= .next∧Q .next s') E s):wpAny M A (execs [a] env) Q E s:=by
 refine c5 (y2 h (fun f s' ⟨q,z⟩=>?_) fun _ _ z=>z);subst q;exact e6 z
end
structure KE (B:Bs) (W fI fW:Addr) (fdI fdW:FuncData):Prop where
 xc:XC B.K (B.ca 3) W
 hasDict:hasDictIn B.K (B.ca 3)=true
 call:specialIn B.K (.ref (B.ca 3)) "__call__"=some (some (.builtin "type.__call__"))
 typ:instIn B.K (.ref (B.ca 3)) (.type "type")=some true
 init:findIn B.K (.ref (B.ca 3)) "__init__"=some (some (.ref fI))
 tI:typeIn B.K (.ref fI)=some (.type "function")
 sattr:findIn B.K (.ref (B.ca 3)) "__setattr__"=some (some (.builtin "object.__setattr__"))
 taker:∀f<9,takerIn B.K (B.ca 3) (aq f)=some none
 keepC:keepIn B.K (.ref (B.ca 3))=true
 gC:B.mg "BadText"=some (.ref (B.ca 3))
 gW:B.mg "WasmFault"=some (.ref W)
 gE:B.mg "Exception"=none
 metaW:specialIn B.K (.ref W) "__getattribute__"=some (some (.builtin "type.__getattribute__"))
 readsW:readsIn B.K W (.type "type")=true
 findW:findCls B.K (.ref W) (.type "type") "__init__"=some (.val (.ref fW))
 fnI:∃p1 p2 p3 p4 p5 p6 p7 p8 p9 p10 p11 p12 p13 p14:Pos,(p2.endLine==p5.line)=true∧FnK B.K fI fdI
  [.Expr (.Call (.Attribute (.Name "WasmFault" p1) "__init__" p2) [.Name "self" p3,.Name "why" p4] [] p5) p6,.Assign [.Attribute (.Name "self" p7) "row" p8] (.Name "row" p9) p10,.Assign [.Attribute (.Name "self" p11) "column" p12] (.Name "column" p13) p14]
 fnW:∃p1 p2 p3 p4 p5 p6 p7 p8 p9 p10:Pos,(p2.endLine==p5.line)=true∧FnK B.K fW fdW
  [.Expr (.Call (.Attribute (.Name "Exception" p1) "__init__" p2) [.Name "self" p3,.Name "why" p4] [] p5) p6,.Assign [.Attribute (.Name "self" p7) "why" p8] (.Name "why" p9) p10]
 bindI:∀a b c d,bindArgs fdI ⟨[a,b,c,d],[]⟩=pure ([("self",a),("why",b),("row",c),("column",d)]:List (PySem.Str×Value))
 bindW:∀a b,bindArgs fdW ⟨[a,b],[]⟩=pure ([("self",a),("why",b)]:List (PySem.Str×Value))
 locI:∀n∈["self","why","row","column"].map PySem.Str.ofString,fdI.scope.names.lookup n=some .local
 locW:∀n∈["self","why"].map PySem.Str.ofString,fdW.scope.names.lookup n=some .local
 gloI:fdI.scope.names.lookup (PySem.Str.ofString "WasmFault")=some .globalImplicit
 gloW:fdW.scope.names.lookup (PySem.Str.ofString "Exception")=some .globalImplicit
theorem XO.mono (x:XO C MN e od mm h) (k:∀b o,h.get? b=some o→h'.get? b=some o):XO C MN e od mm h':=by
 obtain⟨⟨a0,h1⟩,h2,h3,h4,h5⟩:=x;refine⟨⟨a0,k _ _ h1⟩,?_,h3,fun b o q=>k _ _ (h4 b o q),h5⟩
 induction od with
 |none=>exact h2
 |some d=>exact⟨h2.1.at fun o q=>k _ _ q,h2.2⟩
theorem XO.apart (x:XO C MN e od mm h) (hL:h.get? L=none):L≠e∧some L≠od:=by
 refine⟨fun z=>?_,fun z=>?_⟩
 ·obtain⟨a0,h1⟩:=x.obj;rw[←z,hL] at h1;exact noS h1
 ·subst z;have:=dO x.dict.1.ns;rw[hL] at this;exact noT this
theorem Oth.ns (a:Oth e od h h') (n1:L≠e) (n2:some L≠od) (x:h.Ns L mm):h'.Ns L mm:=jI x fun o q=>a L o n1 n2 q
section
variable {W fI fW e:Addr} {fdI fdW:FuncData} {A:Around} {MN:Heap} {od:Option Addr} {mm:PySem.Str→Option Value}
def Lz (C:Addr) (MN:Heap) (e:Addr) (od:Option Addr) (mm:PySem.Str→Option Value) (s:Shared) (s':Shared):Prop:=
 ∃h' od' tk,s'={s with heap:=h',toks:=tk}∧XO C MN e od' mm h'∧Oth e od s.heap h'∧kW s.heap od od'
theorem Eo (K:KE B W fI fW fdI fdW) (hst:B.base.StaysIn MN) (hd:A.depth<recursionLimit) (x:XO (B.ca 3) MN e od mm s.heap):
  codeAny (model B.prog B.w) A (.call (.ref fW) ⟨[.ref e,v],[]⟩) (fun r s'=>r= .ok (.ret .none)∧Lz (B.ca 3) MN e od (fun n=>if n=aq 8 then some v else mm n) s s') s:=by
 refine av fun gP gO=>?_;have stay:B.base.StaysIn s.heap:=fun b o q=>x.keep b o (hst b o q);have X:B.K.In s.heap:=fun a o q=>stay a o (B.inK a o q);obtain⟨p1,p2,p3,p4,p5,p6,p7,p8,p9,p10,hline,F⟩:=K.fnW;refine aj F.obj fun o ho hdata=>?_;have bl:∀a b:Value,([("self",a),("why",b)]:List (PySem.Str×Value)).reverse.lookup (PySem.Str.ofString "self")=some a∧([("self",a),("why",b)]:List (PySem.Str×Value)).reverse.lookup (PySem.Str.ofString "why")=some b:=fun a b=>⟨by kernel_rfl,by kernel_rfl⟩;refine gO ?_;refine codeAny_call_def hd (X _ _ ho) hdata (B.nolimit.keeps stay) (codeRec_of X F.code) F.body (.of_eq (K.bindW _ _)) F.nocell (fun y hy=>?_) (fun MO hns keep=>?_) F.co F.gen F.kind
 ·rcases d0.mp hy with rfl|hy
  ·exact K.locW _ (by simp)
  ·rcases d0.mp hy with rfl|hy
   ·exact K.locW _ (by simp)
   ·cases hy
 have x1:=x.mono keep;have hLd:s.heap.get? s.heap.objs.size=none:=bQ _;have hLe:=(x.apart hLd).1;have hLo:=(x.apart hLd).2;have st1:B.base.StaysIn MO:=fun b o q=>keep b o (stay b o q);have X1:B.K.In MO:=fun a o q=>st1 a o (B.inK a o q);have kd:(callEnv fdW s.heap.objs.size fW).scope.kind= .function:=F.kind;have ks:(callEnv fdW s.heap.objs.size fW).kindOf "self"=some .local:=K.locW _ (by simp);have kw:(callEnv fdW s.heap.objs.size fW).kindOf "why"=some .local:=K.locW _ (by simp);have ke:(callEnv fdW s.heap.objs.size fW).kindOf "Exception"=some .globalImplicit:=K.gloW;refine lw (qt kd rfl ?_);refine oU (o:=.type "Exception") (f:=.builtin "Exception.__init__") (v1:=.ref e) (v2:=v) rfl rfl rfl hline ?_ ?_ ?_ ?_ (.b _) fun t=>?_
 ·intro Q q;exact D0 kd ke (loadGlobal_builtin (by show MO.Ns fdW.globals _;rw[F.globals];exact B.g.keeps st1) K.gE (by show MO.Ns fdW.builtins _;rw[F.builtins];exact B.b.keeps st1) ((B.builtins _ (by decide)).trans PyProof.Rows.Boot.«Exception») q) (by decide)
 ·intro pl Q q;exact sm X1 q
 ·intro Q t q;exact gb (s:={s with heap:=MO,toks:=t}) kd hns ks (bl _ _).1 (by decide) q
 ·intro Q t q;exact gb (s:={s with heap:=MO,toks:=t}) kd hns kw (bl _ _).2 (by decide) q
 refine Dc (s:={s with heap:=MO,toks:=t}) X1 K.xc x1 fun MY x2 o2=>⟨rfl,?_⟩;have st2:B.base.StaysIn MY:=fun b o q=>x2.keep b o (hst b o q);have X2:B.K.In MY:=fun a o q=>st2 a o (B.inK a o q);have hns2:MY.Ns s.heap.objs.size _:=o2.ns hLe hLo hns;refine qj (nT (v:=v) (ov:=.ref e) rfl (fun q=>gb (s:={s with heap:=MY,toks:=t}) kd hns2 kw (bl _ _).2 (by decide) q) (fun q=>gb (s:={s with heap:=MY,toks:=t}) kd hns2 ks (bl _ _).1 (by decide) q) ?_);refine rj (s:={s with heap:=MY,toks:=t}) (f:=8) (by decide) X2 K.xc K.hasDict K.sattr (K.taker 8 (by decide)) x2 fun Nf od' tk x3 o3 g3=>⟨rfl,rfl,Nf,od',tk,rfl,x3,?_,?_⟩
 ·exact fun b o n1 n2 q=>o3 b o n1 n2 (o2 b o n1 n2 (keep b o q))
 ·refine kW.trans (.inl rfl) (fun b q=>?_) g3;obtain⟨o,ho⟩:=d9.mp q;exact o2.alive x2 (.inl rfl) b (by rw[keep b o ho];rfl)
theorem Ha (K:KE B W fI fW fdI fdW) (hst:B.base.StaysIn MN) (hd:A.depth+1<recursionLimit) (x:XO (B.ca 3) MN e od mm s.heap) {v r c:Value}:
  codeAny (model B.prog B.w) A (.call (.ref fI) ⟨[.ref e,v,r,c],[]⟩) (fun res s'=>res= .ok (.ret .none)∧Lz (B.ca 3) MN e od (fun n=>if n=aq 3 then some c else if n=aq 2 then some r else if n=aq 8 then some v else mm n) s s') s:=by
 refine av fun gP gO=>?_;have stay:B.base.StaysIn s.heap:=fun b o q=>x.keep b o (hst b o q);have X:B.K.In s.heap:=fun a o q=>stay a o (B.inK a o q);obtain⟨p1,p2,p3,p4,p5,p6,p7,p8,p9,p10,p11,p12,p13,p14,hline,F⟩:=K.fnI;refine aj F.obj fun o ho hdata=>?_;have bl:∀a b c d:Value,([("self",a),("why",b),("row",c),("column",d)]:List (PySem.Str×Value)).reverse.lookup (PySem.Str.ofString "self")=some a∧([("self",a),("why",b),("row",c),("column",d)]:List (PySem.Str×Value)).reverse.lookup (PySem.Str.ofString "why")=some b∧
  ([("self",a),("why",b),("row",c),("column",d)]:List (PySem.Str×Value)).reverse.lookup (PySem.Str.ofString "row")=some c∧([("self",a),("why",b),("row",c),("column",d)]:List (PySem.Str×Value)).reverse.lookup (PySem.Str.ofString "column")=some d:=fun a b c d=>⟨by kernel_rfl,by kernel_rfl,by kernel_rfl,by kernel_rfl⟩
 refine gO ?_;refine codeAny_call_def (by lia) (X _ _ ho) hdata (B.nolimit.keeps stay) (codeRec_of X F.code) F.body (.of_eq (K.bindI _ _ _ _)) F.nocell (fun y hy=>?_) (fun MO hns keep=>?_) F.co F.gen F.kind
 ·rcases d0.mp hy with rfl|hy
  ·exact K.locI _ (by simp)
  ·rcases d0.mp hy with rfl|hy
   ·exact K.locI _ (by simp)
   ·rcases d0.mp hy with rfl|hy
    ·exact K.locI _ (by simp)
    ·rcases d0.mp hy with rfl|hy
     ·exact K.locI _ (by simp)
     ·cases hy
 have x1:=x.mono keep;have hLd:s.heap.get? s.heap.objs.size=none:=bQ _;have hLe:=(x.apart hLd).1;have hLo:=(x.apart hLd).2;have st1:B.base.StaysIn MO:=fun b o q=>keep b o (stay b o q);have X1:B.K.In MO:=fun a o q=>st1 a o (B.inK a o q);have kd:(callEnv fdI s.heap.objs.size fI).scope.kind= .function:=F.kind;have ks:(callEnv fdI s.heap.objs.size fI).kindOf "self"=some .local:=K.locI _ (by simp);have kw:(callEnv fdI s.heap.objs.size fI).kindOf "why"=some .local:=K.locI _ (by simp);have kr:(callEnv fdI s.heap.objs.size fI).kindOf "row"=some .local:=K.locI _ (by simp);have kc:(callEnv fdI s.heap.objs.size fI).kindOf "column"=some .local:=K.locI _ (by simp);have ke:=K.gloI;refine lw (qt kd rfl ?_);have hkW:keepIn B.K (.ref fW)=true:=by obtain⟨_,_,_,_,_,_,_,_,_,_,_,F'⟩:=K.fnW;exact F'.keep
 refine oU (o:=.ref W) (f:=.ref fW) (v1:=.ref e) (v2:=v) rfl rfl rfl hline ?_ ?_ ?_ ?_ (keeps_K hkW MO X1) fun t=>?_
 ·intro Q q;exact D0 kd ke (loadGlobal_global (by show MO.Ns fdI.globals _;rw[F.globals];exact B.g.keeps st1) K.gW q) (by decide)
 ·intro pl Q q;exact method_cls X1 K.metaW (cls_value X1 K.readsW K.findW rfl (q _))
 ·intro Q t q;exact gb (s:={s with heap:=MO,toks:=t}) kd hns ks (bl _ _ _ _).1 (by decide) q
 ·intro Q t q;exact gb (s:={s with heap:=MO,toks:=t}) kd hns kw (bl _ _ _ _).2.1 (by decide) q
 refine wpAny_call (codeAny_mono (Eo (s:={s with heap:=MO,toks:=t}) K hst hd x1) fun res s' z=>?_);obtain⟨rfl,MY,Nl,NB,rfl,x2,o2,g2⟩:=z;refine⟨rfl,?_⟩;have hns2:MY.Ns s.heap.objs.size _:=o2.ns hLe hLo hns;have hLo2:some s.heap.objs.size≠Nl:=by
  rcases g2 with rfl|⟨-,d,rfl,hd⟩
  ·exact hLo
  ·intro z;cases z;have:=dO hns;rw[show MO.get? s.heap.objs.size=none from hd] at this;exact noT this
 have alive1:∀b,(s.heap.get? b).isSome=true→(MO.get? b).isSome=true:=fun b q=>by
  refine ar (d9.mp q) fun o ho=>?_;rw[keep b o ho];rfl
 refine lw (nT (v:=r) (ov:=.ref e) rfl (fun q=>gb (s:={s with heap:=MY,toks:=NB}) kd hns2 kr (bl _ _ _ _).2.2.1 (by decide) q) (fun q=>gb (s:={s with heap:=MY,toks:=NB}) kd hns2 ks (bl _ _ _ _).1 (by decide) q) ?_);refine rj (s:={s with heap:=MY,toks:=NB}) (f:=2) (by decide) (fun a o q=>(fun b o q=>x2.keep b o (hst b o q)) a o (B.inK a o q)) K.xc K.hasDict K.sattr (K.taker 2 (by decide)) x2 fun Nf OD NP x3 o3 g3=>⟨rfl,?_⟩;have st3:B.base.StaysIn Nf:=fun b o q=>x3.keep b o (hst b o q);have X3:B.K.In Nf:=fun a o q=>st3 a o (B.inK a o q);refine qj (nT (v:=c) (ov:=.ref e) rfl (fun q=>gb (s:={s with heap:=Nf,toks:=NP}) kd (o3.ns hLe hLo2 hns2) kc (bl _ _ _ _).2.2.2 (by decide) q) (fun q=>gb (s:={s with heap:=Nf,toks:=NP}) kd (o3.ns hLe hLo2 hns2) ks (bl _ _ _ _).1 (by decide) q) ?_);refine rj (s:={s with heap:=Nf,toks:=NP}) (f:=3) (by decide) X3 K.xc K.hasDict K.sattr (K.taker 3 (by decide)) x3 fun O4 Ob O0 x4 o4 g4=>⟨rfl,rfl,O4,Ob,O0,rfl,x4,?_,?_⟩
 ·have o12:Oth e od s.heap MY:=fun b o n1 n2 q=>o2 b o n1 n2 (keep b o q);have g12:kW s.heap od Nl:=kW.trans (.inl rfl) alive1 g2;have g13:=g12.trans (o12.alive x2 g12) g3;exact(o12.trans g12 o3).trans g13 o4
 ·have o12:Oth e od s.heap MY:=fun b o n1 n2 q=>o2 b o n1 n2 (keep b o q);have g12:kW s.heap od Nl:=kW.trans (.inl rfl) alive1 g2;have g13:=g12.trans (o12.alive x2 g12) g3;exact g13.trans ((o12.trans g12 o3).alive x3 g13) g4
end
section
variable {Kn:(Nat→V)→Sto→Prop} {Kr:Kx} {Kb Kc:(Nat→V)→Sto→Prop} {KE':Ke}
def Lf {α:Type} (x:List α) (f:α→α→α→Prop):Prop:=match x with|[a,b,c]=>f a b c|_=>False
theorem BR {α:Type} {x:List α} {f:α→α→α→Prop} (h:Lf x f):∃a b c,x=[a,b,c]∧f a b c:=by
 cases x with
 |nil=>exact False.elim h
 |cons a r=>cases r with
  |nil=>exact False.elim h
  |cons b r=>cases r with
   |nil=>exact False.elim h
   |cons c r=>induction r with
    |nil=>exact⟨a,b,c,rfl,h⟩
    |cons _ _=>exact False.elim h
theorem IP {a a' a'':X} {N9:V→V→V→Sto→Prop} (h:vcX Sp gv a m σ (fun d J=>vcX Sp gv a' m J (fun d' M2=>vcX Sp gv a'' m M2 (fun d'' ML=>N9 d d' d'' ML) KE') KE') KE'):
  jj Sp gv (.cons a (.cons a' (.cons a'' .nil))) m σ (fun ds M2=>Lf ds fun d d' d''=>N9 d d' d'' M2) KE':=h
theorem ME {Q:Addr→Prop} {h:Heap} {vs:List Value} {d d' d'':V} (r:Rvs B Q h vs [d,d',d'']):∃v v' v'',vs=[v,v',v'']∧Rv B Q h v d∧Rv B Q h v' d'∧Rv B Q h v'' d'':=by
 refine av fun gP gO=>?_;refine aZ r.inv fun v r1 e a x=>?_;refine aZ (zP x) fun v' v'' z2_ b y=>?_;subst z2_;refine gO ?_;exact⟨v,v',v'',e,a,b,y⟩
def Exo (B:Bs) (s:Shared) (e:Addr):Prop:=∃od a0,s.heap.get? e=some {cls:=.ref (B.ca 3),dict:=od,data:=.fields #[a0,.none,.none,.none,.bool false,.none]}
theorem Hb {C:Addr} {MN h:Heap} {e:Addr} {od:Option Addr} {mm:PySem.Str→Option Value} (x:XO C MN e od mm h) {n:PySem.Str} {v:Value} (hm:mm n=some v):∃d,od=some d:=by
 induction od with
 |none=>exact noS ((x.dict n).symm.trans hm)
 |some d=>exact⟨d,rfl⟩
theorem KO {w r c:Value}:(if aq 2=aq 3 then some c else if aq 2=aq 2 then some r else if aq 2=aq 8 then some w else none)=some r:=(i3 (vm (by decide) (by decide))).trans (i7 rfl)
theorem FQ (hc:c.Ok B) {W fI fW:Addr} {fdI fdW:FuncData} (K:KE B W fI fW fdI fdW) (S:St B c m σ s) {v:Value} {row col:Int} {t u:Tok} (kk:KE' row col σ):
  Tri B c (call (.ref (B.ca 3)) [v,.int row t,.int col u]) m σ s (fun v M1 s'=>∃e row col,v= .ref e∧Exo B s' e∧Ex B (Pr M1 c.F) s.heap s'.heap e row col∧KE' row col M1) KE':=by
 refine bW (pJ (t:=s.toks) S.inK K.xc K.call K.typ K.init K.tI (by show 3≤sizeLine;rw[H4];decide) (bC.any ?_));have hdead:s.heap.get? (s.heap.objs.size+1)=none:=rI (Nat.le_succ _);have x0:XO (B.ca 3) s.heap (s.heap.objs.size+1) none (fun _=>none) ((s.heap.push {cls:=.type "tuple",data:=.seq [v,.int row t,.int col u].toArray}).push (il (B.ca 3) s.heap.objs.size)):=
  ⟨⟨.ref s.heap.objs.size,by heap_get⟩,fun _=>rfl,fun y hy=>(hy rfl).elim,fun b o q=>f5 _ (f5 _ q),hdead⟩
 refine codeAny_mono (Ha (s:=⟨_,s.gens,s.drawn,s.toks,s.os⟩) K S.stays (by
  have:=hc.depth;rw[ow];show c.A.depth+1+1<_;lia) x0) fun res s' z=>?_
 obtain⟨rfl,hp,od,tk,rfl,x,o,g⟩:=z;refine⟨rfl,?_⟩;refine av fun gP gO=>?_;have h2:=KO (w:=v) (c:=.int col u) (r:=.int row t);refine ar x.obj fun a0 ho=>?_;refine ar (Hb x (n:=aq 2) h2) fun d z1_=>?_;subst z1_;have pr (a) (q:s.heap.get? a=none):Pr σ c.F a:=⟨S.hr.dead q,fun z=>bJ (S.fal _ z).1 q⟩;refine gO ?_;exact⟨σ,S.kept hc x.keep tk,.kept c σ x.keep tk,_,row,col,rfl,⟨_,a0,ho⟩,⟨_,_,d,_,t,u,ho,rfl,rfl,by show 4<6;decide,rfl,x.dict.1.ns,h2,i7 rfl,pr _ hdead,pr _ x.dict.2.2,hdead,x.dict.2.2,.inl rfl⟩,kk⟩
theorem Cr (hc:c.Ok B) (hh:c.hd=true) {W fI fW:Addr} {fdI fdW:FuncData} (K:KE B W fI fW fdI fdW) {KE:(Nat→V)→Ke} {t:Sem Value} (H:Tri B c t m σ s (fun v M1 s'=>∃e row col,v= .ref e∧Exo B s' e∧Ex B (Pr M1 c.F) s.heap s'.heap e row col∧KE m row col M1) (KE m)):
  cN B c (raiseStmt c.env (some t) none) σ s Kn Kr Kb Kc KE:=by
 refine aa (aJ H (fun v s' q0_=>?_) fun _ _ z=>z.postS);obtain⟨M1,S',N',z⟩:=q0_;refine av fun gP gO=>?_;refine eA z fun e row col z3_ z4_ X kk=>?_;subst z3_;obtain⟨od,a0,ho⟩:=z4_;obtain⟨nm,q,N,bs,hdct,sn,sub,ab,col',dd,k0,k1,k2,k3,k5,hC0⟩:=K.xc;have hC:=S'.inK _ _ hC0;have hcB:=ip (B.ca 3) W "BaseException" (b:=true) (by decide+kernel);refine gO ?_;refine wpG.any ?_;have fin:PostS B c σ s KE (.ref e) s':=⟨e,row,col,m,M1,rfl,S',N'.nx,X,kk⟩
 repeat (first|with_reducible refine C7 ho ?_|with_reducible refine C7 hC ?_|(with_reducible refine E5 hC ?_;rw[hcB])|wp_step)
 exact wpAny_raiseNew_none (hc.handled hh) fin
theorem vQ {e e' e'':Expr} (h:az e=true) (h':az e'=true) (h'':az e''=true):bo [e,e',e'']=true:=d8.mpr ⟨h,kq h' h''⟩
theorem Fg (hc:c.Ok B) (hh:c.hd=true) {W fI fW:Addr} {fdI fdW:FuncData} (K:KE B W fI fW fdI fdW) {NE ND NC:X} {N6 N7 Na:Expr} {np cpos pos:Pos} (O3:az N6=true) (O2:az N7=true) (O1:az Na=true) (MO:EX B c Sp gv NE N6) (MY:EX B c Sp gv ND N7) (Nf:EX B c Sp gv NC Na)
  (hki:c.env.kindOf "BadText"=some .globalImplicit):ES1 B c Sp gv (.raise NE ND NC) (.Raise (some (.Call (.Name "BadText" np) [N6,N7,Na] [] cpos)) none pos):=by
 intro m σ s Kn Kr Kb Kc KE h S;refine cN.stand (Cr (m:=m) (t:=eval (.Call (.Name "BadText" np) [N6,N7,Na] [] cpos) c.env>>=fun v=>standAt pos>>=fun _=>Pure.pure v) hc hh K ?_);refine aa (aJ (?_:Tri B c (eval (.Call (.Name "BadText" np) [N6,N7,Na] [] cpos) c.env) m σ s _ (KE m)) (fun v s' z=>aa (aR (ac z))) fun _ _ z=>z);show Tri B c (eval (.Name "BadText" np) c.env>>=fun f=>PySem.callWith cpos f [] (backTo cpos (starEach [N6,N7,Na] c.env)) []) m σ s _ (KE m);refine aa (wpG.any (dr hc S K.gC hki (by decide) ?_));refine Tri.callWith hc (xs:=.cons NE (.cons ND (.cons NC .nil))) (vQ O3 O2 O1) (cz O3 MO (cz O2 MY (cz O1 Nf ej hc) hc) hc) (fun h X=>keeps_K K.keepC h X) (IP h) S fun vs ds J M0 M3 M6 r kk=>?_;refine av fun gP gO=>?_;refine sN (BR kk) fun M9 M5 Ng z3_ kk=>?_;subst z3_;refine eA (ME r) fun OE Nh NT z3_ OG MR Nr=>?_;subst z3_;refine aj (nR kk) fun x z1_ k1=>?_;subst z1_;refine aj (cJ k1) fun row z1_ k2=>?_;subst z1_;refine aj (cJ k2) fun col z1_ k3=>?_;subst z1_;refine ar MR.inv fun t z1_=>?_;subst z1_;refine ar Nr.inv fun u z1_=>?_;subst z1_;refine gO ?_;exact(FQ hc K M3 k3).mono fun v M2 M8 M7 MM q0_=>by obtain⟨e,row,col,e1,e2,X,k⟩:=q0_;exact⟨e,row,col,e1,e2,X.sooner M6.ev.alive,k⟩
end
section
variable {Kn:(Nat→V)→Sto→Prop} {Kr:Kx} {Kb Kc:(Nat→V)→Sto→Prop} {KE:(Nat→V)→Ke}
theorem yj (hc:c.Ok B) {i:Nat} {id:PySem.Str} (hx:(i,id,false)∈c.vars) (S:St B c m σ s) {pos:Pos} {Q:Unit→Shared→Prop} {E:Value→Shared→Prop}
  (h:∀s',St B c (upd m i .unb) σ s'→Nx c σ s σ s'→Q () s'):wpAny (model B.prog B.w) c.A (do bindName c.env id .none;unbindBehindTheSuite c.env id pos) Q E s:=by
 refine av fun gP gO=>?_;have keep:∀{a:Addr} {h':Heap},c.own a→Heap.SameBut a s.heap h'→∀b o,Pr σ c.F b→s.heap.get? b=some o→Pr σ c.F b∧h'.get? b=some o:=fun ha hs b o p q=>⟨p,(hs.2 b fun z=>p.2 (z▸hc.ownF _ ha)).trans q⟩;refine aj S.loc.1 fun mm hn k=>?_;refine gO ?_;refine wpAny_nameGoes_keeps (hc.vloc _ hx rfl) hn (by rw[hc.kind];rfl) fun h' u hns hs=>?_;refine av fun gP gO=>?_;have hn0:=hn;have hns0:=hns;refine eB hn0 fun ob es ep hob hod _=>?_;refine eB hns0 fun ob' es' ep' hob' hod' _=>?_;have hl:Loc B c (upd m i .unb) σ h':=by
  refine⟨⟨_,hns,fun y hy e=>?_⟩,fun y hy e a ha=>?_⟩
  ·by_cases z:y.1=i
   ·left;rw[z,cV]
   ·refine er (dD m .unb z) ?_;refine(k y hy e).imp (fun q=>q) fun⟨w,q,rw'⟩=>⟨w,?_,rw'.keep (keep hc.ownL hs)⟩;refine er (i3 fun w=>z (by have:=hc.injn y hy _ hx w;rw[this])) ?_;exact q
  ·refine aj (S.loc.2 y hy e a ha) fun ov hcell kk=>?_;have z:y.1≠i:=fun w=>by have:=hc.inj y hy _ hx w;subst this;exact noT e
   refine er (dD m .unb z) ?_;have ne:=hc.cellL y hy a e ha;refine aj hcell fun o ho hd=>?_;exact⟨ov,⟨o,(hs.2 a ne).trans ho,hd⟩,kk.imp (fun q=>q) fun⟨w,q,rw'⟩=>⟨w,q,rw'.keep (keep hc.ownL hs)⟩⟩
 refine am (S.own hc hc.ownL hob hob' (fun vs z=>by rw[hod'] at z;cases z) hs (s.toks+1) hl) fun S' N'=>?_;refine gO ?_;exact h _ S' N'
noncomputable def FC.held (c:FC) (e:Addr):FC:={c with A:=c.A.mark (some (.ref e)),hd:=false}
theorem FC.held_ok (hc:c.Ok B) (e:Addr):(c.held e).Ok B:=
 ⟨hc.kind,hc.globals,hc.bns,hc.frames,hc.frame,hc.fkind,hc.priv,(fun z=>by cases z),hc.guards,hc.depth,hc.units,hc.ownL,hc.ownF,hc.ownNew,hc.FF,hc.vloc,hc.vcell,hc.cellL,hc.inj,hc.injn,hc.injc,hc.NZ⟩
theorem St.held (S:St B c m σ s) (e:Addr):St B (c.held e) m σ s:=⟨S.loc,S.hr,S.fal,S.stays,S.ff,S.ev,S.nd,S.same⟩
theorem St.unheld (S:St B (c.held e) m σ s):St B c m σ s:=⟨S.loc,S.hr,S.fal,S.stays,S.ff,S.ev,S.nd,S.same⟩
theorem Nx.unheld (x:Nx (c.held e) σ s M1 s'):Nx c σ s M1 s':=⟨x.ev,x.nd,x.same⟩
structure KT (B:Bs):Prop where
 notTup:instIn B.K (.ref (B.ca 3)) (.type "tuple")=some false
 typ:typeIn B.K (.ref (B.ca 3))=some (.type "type")
 base:mroIn B.K (B.ca 3) (.type "BaseException")=some true
 self:mroIn B.K (B.ca 3) (.ref (B.ca 3))=some true
 cls:(clsIn B.K (B.ca 3)).isSome=true
 gC:B.mg "BadText"=some (.ref (B.ca 3))
set_option tactic.hygienic true in
theorem wb (K:KT B) (X:B.K.In s.heap) (he:s.heap.get? e=some oe) (hcl:oe.cls= .ref (B.ca 3)) (h:Q true s):
  wpAny (model B.prog B.w) A (excMatches (.ref e) (.ref (B.ca 3))) Q E s:=by
 refine av fun gP gO=>?_;have L1:=looks_instIn (M:=model B.prog B.w) X K.notTup;have L2:=looks_mroIn (M:=model B.prog B.w) X K.base;have L3:=looks_mroIn (M:=model B.prog B.w) X K.self;obtain⟨cd,hcd⟩:=d9.mp K.cls;have hcd':∃oc od sl,B.K.lookup (B.ca 3)=some ⟨oc,od,.cls cd,sl⟩:=by
  unfold clsIn at hcd
  split at hcd
  ·rename_i oc od cd' sl q;cases hcd;exact⟨oc,od,sl,q⟩
  ·exact noS hcd
 refine Ek hcd' fun oc od sl hC0=>?_;have hC:=X _ _ hC0;have L4:Looks (model B.prog B.w) s.heap (isType (.ref (B.ca 3))) true:=(Looks.ld (part:=some headPart) hC).andThen .now;obtain⟨ce,de,dae,sle⟩:=oe;subst hcl;have L5:Looks (model B.prog B.w) s.heap (typeOf (.ref e)) (.ref (B.ca 3)):=(Looks.ld he).andThen .now;refine gO ?_;refine c5 (L1.here ?_);refine c5 (e6 ?_);refine c5 (c5 (c5 (c5 (L4.here ?_))));refine L2.here ?_;refine e6 (e6 ?_);refine c5 (L5.here ?_);refine c5 (c5 (c5 (L3.here ?_)));exact e6 (e6 (e6 h))
theorem Ex.rv (x:Ex B P MN h e row col):Rv B P h (.ref e) (.exc row col):=by
 obtain⟨oe,vs,d,mm,t,u,a1,a2,a3,a4,a5,a6,a7,a8,a9,a10,a11,a12,a13⟩:=x;exact .exc a1 a2 a5 ⟨vs,a3⟩ a9 a10 a6 a7 a8
theorem wc (K:KT B) (hK:B.K.In s.heap) (x:Ex B P MN s.heap e row col) (h:Q true s):wpAny (model B.prog B.w) A (excMatches (.ref e) (.ref (B.ca 3))) Q E s:=by
 obtain⟨oe,evs,ed,emm,et,eu,a1,a2,-⟩:=x;exact wb K hK a1 a2 h
theorem LZ (hc:c.Ok B) (K:KT B) {b h:S} {i:Nat} {id:PySem.Str} (hx:(i,id,false)∈c.vars) {sb sh:List Stmt} {st0:Stmt} {np hpos pos:Pos} (hki:c.env.kindOf "BadText"=some .globalImplicit)
  (hb:ES B c Sp gv b sb) (hh:∀e,ES B (c.held e) Sp gv h (st0::sh)):ES1 B c Sp gv (.try_ b i h) (.Try sb [.ExceptHandler (some (.Name "BadText" np)) (some id) (st0::sh) hpos] [] [] pos):=by
 intro m σ s Kn Kr Kb Kc KE hv S;refine cN.stand ?_;have H:=hb _ _ _ _ _ _ _ _ hv S;refine aa (iG (aJ H (fun fl s' z=>?_) fun ev s' x=>?_))
 ·induction fl with
  |next=>exact ac z
  |_=>exact ac z
 ·-- noted
  refine aa (wpG.any (y2 (x.note hc S) (fun _ M8 y=>?_) fun _ _ z=>z));obtain⟨⟨e,row,col,m',M1,rfl,S',N',X,kk⟩,-⟩:=y;refine aa (wpG.any (fD X fun Nf NO NP=>?_));refine am (S'.bumpN hc N' S NO.bump NO.old fun a _=>NO.alive a) fun MU MT=>?_;have O5:=NO.ex;have hc':=FC.held_ok hc e;refine aa (ay ?_);refine bb (jS (aI rfl ?_) (by intro z;cases z));show wpG _ (c.held e).A (do return Fin.done (←(handleWith (.ref e) c.env [.ExceptHandler (some (.Name "BadText" np)) none [] hpos]).onRaise (fun x=>do noteFrame x c.env;theTreesLotGoes x))) _ _ _;refine aa (bb ?_);refine aa (aR (aa (wpG.any (dr hc' (MU.held e) K.gC hki (by decide) ?_))));refine aa (aR (aa (wpG.any (wc K MU.inK O5 ?_))));refine ac (ac ?_);refine aa (ac ?_);refine aa (ay ?_);refine bb (jS (aI rfl ?_) (by intro z;cases z));show wpG _ (c.held e).A (do return Fin.done (←(handleWith (.ref e) c.env [.ExceptHandler none (some id) (st0::sh) hpos]).onRaise (fun x=>do noteFrame x c.env;theTreesLotGoes x))) _ _ _;refine aa (bb ?_);refine aa (aR (aa (wpG.any (fD O5 fun O4 NN O0=>?_))));refine am (MU.bumpN hc MT S NN.bump NN.old fun a _=>NN.alive a) fun N3 N5=>?_;have Oy:=NN.ex;refine aa (wpG.any (ir hc' hx (fun z=>by cases z) (N3.held e) Oy.rv fun Ni NF Nz=>?_));refine aa (iG (aJ (hh e _ _ _ _ _ _ _ _ kk NF) (fun fl Om ⟨OH,O9,NV,OB,z⟩=>?_) fun ev Om ⟨_,_,_,_,_,_,_,_,_,kk⟩=>kk.elim));have N:=N5.trans (Nz.unheld.trans OB.unheld)
  induction fl with
  |ret v=>
   refine aj z fun d r kr=>?_;refine ac (ac ?_);refine aa (ay (wpG.any (yj hc hx NV.unheld fun OF OA O6=>?_)));exact wpG.any (e6 ⟨_,O9,OA,N.trans O6,d,O6.rv hc r,kr⟩)
  |next=>exact z.elim
  |brk=>exact z.elim
  |cont=>exact z.elim
end
set_option backward.match.sparseCases false in
noncomputable def qM:Expr→Bool
 |.Tuple vs _ _=> !(vs.all (constantsAlone 8))||vs.all (foldedForSure 8)
 |_=>true
abbrev pA:=List ((Nat×PySem.Str×Bool)×Pos)
noncomputable def kR (tp:pA):List Expr:=tp.map fun x=>.Name x.1.2.1 x.2
theorem qh (hf:∀id pos,f (.Name id pos)=some id∨f (.Name id pos)=none):∀(tp:pA),(List.filterMap f (kR tp)).length≤tp.length∧
  ((List.filterMap f (kR tp)).length=tp.length→List.filterMap f (kR tp)=tp.map fun x=>x.1.2.1)
 |[]=>⟨f3 _,fun _=>rfl⟩
 |x::tp=>by
  refine am (qh hf tp) fun h1 h2=>?_;unfold kR at h1 h2⊢;refine er j3 (er y9 ?_);rcases hf x.1.2.1 x.2 with q|q
  ·refine er q ?_;refine⟨by simp only[c6];lia,fun e=>?_⟩;simp only[c6] at e;exact er (h2 (by lia)) (er j3 rfl)
  ·refine er q ?_;refine⟨by simp only[c6];lia,fun e=>?_⟩;simp only[c6] at e;lia
def SwR (tp:pA) (z:Sem (Option (List PySem.Str))):Prop:=z=pure none∨(z=pure (some (tp.map fun x=>x.1.2.1))∧(tp.length=2∨tp.length=3))
theorem mI {c:Prop} [Decidable c] (h:¬c→SwR tp e):SwR tp (if c then pure none else e):=
 iteInduction (motive:=SwR tp) (fun _=>.inl rfl) h
theorem BS (hv:qM (.Tuple vs a b)=true):
  SwR tp (swappedStores [.Tuple (kR tp) k tpos] (.Tuple vs a b) env):=by
 refine mI fun h1=>mI fun _=>mI fun h2=>mI fun h3=>iteInduction (motive:=SwR tp) (fun h4=>?_) fun _=>.inr ⟨congrArg (fun z=>pure (some z)) ((qh (fun id pos=>?_) tp).2 ?_),?_⟩
 ·rcases l8.mp hv with q|q
  ·rw[h4] at q;exact noT q
  ·exact absurd q h3
 ·exact iteInduction (motive:=fun z=>z=some id∨z=none) (fun _=>.inl rfl) fun _=>.inr rfl
 ·rw[z7,not_or] at h2;exact E7 fun z=>h2.1 (bne_iff_ne.mpr fun q=>z (q.trans (f7 _)))
 ·have hl:(kR tp).length=tp.length:=f7 _;rw[z7,not_or,z7,not_or,hl] at h1;exact(l8.mp (E7 fun z=>h1.1.1 (by rw[A4.mpr z];rfl))).imp eq_of_beq eq_of_beq
theorem vR (hv:qM value=true):SwR tp (swappedStores [.Tuple (kR tp) k tpos] value env):=by
 cases value<;>first|exact .inl rfl|exact BS hv
section
variable {Kn:(Nat→V)→Sto→Prop} {Kr:Kx} {Kb Kc:(Nat→V)→Sto→Prop} {KE:(Nat→V)→Ke}
theorem mf (hc:c.Ok B):∀(ts:pA) (vs:List Value) (ds:List V) (m m':Nat→V) (s:Shared) (Q:Unit→Shared→Prop),
  (∀x∈ts,x.1∈c.vars∧(x.1.2.2=true→c.ck x.1.2.1))→St B c m σ s→Rvs B (Pr σ c.F) s.heap vs ds→bi (ts.map (·.1.1)) ds m=some m'→
  (∀s',St B c m' σ s'→Nx c σ s σ s'→Q () s')→wpAny (model B.prog B.w) c.A (assignInOrder (ts.map fun x=>assign (.Name x.1.2.1 x.2) c.env) vs) Q E s
 |[],vs,ds,m,m',s,Q,ht,S,r,e,h=>by
  cases r with
  |nil=>cases e;exact e6 (h s S (.refl ..))
  |cons a r=>exact noS e
 |x::ts,vs,ds,m,m',s,Q,ht,S,r,e,h=>by
  cases r with
  |nil=>exact noS e
  |cons a r=>
   refine c5 (u9 (c5 (B6 (ir hc (ht _ (.head _)).1 (ht _ (.head _)).2 S a fun s' S' N'=>?_))));exact mf hc ts _ _ _ m' s' Q (fun y hy=>ht y (.tail _ hy)) S' (N'.rvs hc r) e fun s'' S'' N''=>h s'' S'' (N'.trans N'')
theorem gT {is:List Nat}:∀{ds:List V} {m m':Nat→V},bi is ds m=some m'→is.length=ds.length:=by
 induction is with
 |nil=>
  intro ds m m' e
  induction ds with
  |nil=>rfl
  |cons d ds=>exact noS e
 |cons i is ih=>
  intro ds m m' e
  induction ds with
  |nil=>exact noS e
  |cons d ds=>exact congrArg (· +1) (ih e)
theorem Ij {α:Type} {l:List α} (h:l.length=2):∃a b,l=[a,b]:=by
 rcases l with _|⟨a,_|⟨b,_|⟨c,l⟩⟩⟩
 ·exact nomatch h
 ·exact nomatch h
 ·exact⟨a,b,rfl⟩
 ·exact nomatch Nat.succ.inj (Nat.succ.inj h)
theorem Lm {α:Type} {l:List α} (h:l.length=3):∃a b c,l=[a,b,c]:=by
 rcases l with _|⟨a,l⟩
 ·exact nomatch h
 ·refine cu (Ij (Nat.succ.inj h)) fun b c z2_=>?_;subst z2_;exact⟨a,b,c,rfl⟩
theorem ko (m:Nat→V) {i j:Nat} (h:i≠j) (a b:V):upd (upd m i a) j b=upd (upd m j b) i a:=by
 funext k;unfold upd;by_cases h1:k=i
 ·by_cases h2:k=j
  ·exact absurd (h1.symm.trans h2) h
  ·simp[h1,h]
 ·simp[h1]
theorem nW {i j:Nat} {l:List Nat} (h:(i::j::l).Nodup):j≠i:=fun z=>(i4.mp h).1 (z▸ .head _)
theorem rW {is:List Nat} {ds:List V} {m m':Nat→V} (hl:is.length=2∨is.length=3) (nd:is.Nodup) (e:bi is ds m=some m'):bi is.reverse ds.reverse m=some m':=by
 rcases hl with hl|hl
 ·refine cu (Ij hl) fun i j z2_=>?_;subst z2_;refine cu (Ij (gT e).symm) fun a b z2_=>?_;subst z2_;exact(congrArg some (ko m (nW nd) b a)).trans e
 ·refine Ek (Lm hl) fun i j k z3_=>?_;subst z3_;refine Ek (Lm (gT e).symm) fun a b c z3_=>?_;subst z3_;have n1:k≠i:=fun z=>(i4.mp nd).1 (z▸ .tail _ (.head _));refine Eq.trans (congrArg some ?_) e;exact er (ko m (nW (i4.mp nd).2) c b) (er (ko _ n1 c a) (er (ko m (nW nd) b a) rfl))
theorem Fh (r:Rvs B P h vs ds):Rvs B P h vs.reverse ds.reverse:=by
 induction ds generalizing vs with
 |nil=>cases r;exact .nil
 |cons d ds ih=>cases r with
  |cons a r=>rw[l6,l6];exact(ih r).append (.cons a .nil)
theorem oS (env:Env):∀tp:pA,assignEach (kR tp) env=tp.map fun x=>(false,assign (.Name x.1.2.1 x.2) env)
 |[]=>rfl
 |x::tp=>congrArg ((false,assign (.Name x.1.2.1 x.2) env):: ·) (oS env tp)
theorem uA (env:Env) (v:Value) (names:List PySem.Str) (stores:List (Value→Sem Unit)):assignStores env v (some names) stores=(rule "assign.swapped-stores">>=fun _=>unpackItems v names.length none>>=fun items=>assignInOrder (names.reverse.map fun n=>bindName env n) items.reverse>>=fun _=>Pure.pure PySem.Flow.next):=rfl
theorem IT (hc:c.Ok B) (S:St B c m σ s) {a:Addr} {vs:List Value} {n:Nat} {tp:pA} (h1:s.heap.get? a=some (uP vs n)) (lenV:vs.length=tp.length) {A:Around} {E:Value→Shared→Prop} {Q:List Value→Shared→Prop} (hA:A.handled=none) (q:∀M8,St B c m σ M8→Nq c σ s σ M8→Q vs M8):
  wpAny (model B.prog B.w) A (unpackItems (.ref a) tp.length none) Q E s:=by
 have:=wpAny_unpackItems_tuple (prog:=B.prog) (w:=B.w) (E:=E) (Q:=Q) hA (⟨_,h1,rfl,n,rfl⟩) fun h' hk=>
  q _ (S.kept hc (fun b o q=>hk b o (s9 (o6 q)) q:∀b o,s.heap.get? b=some o→h'.get? b=some o) s.toks) (.kept c σ (fun b o q=>hk b o (s9 (o6 q)) q:∀b o,s.heap.get? b=some o→h'.get? b=some o) s.toks)
 rw[k9,lenV] at this;exact this
theorem uF (h:wpAny (model B.prog B.w) A (unpackItems v tp.length none) (fun vs s'=>wpAny (model B.prog B.w) A (assignInOrder (tp.map fun x=>assign (.Name x.1.2.1 x.2) env) vs) (fun _ s''=>Q .next s'') E s') E s):
  wpAny (model B.prog B.w) A (assignAll v [assign (.Tuple (kR tp) k tpos) env]>>=fun _=>Pure.pure PySem.Flow.next) Q E s:=by
 refine c5 ?_;refine c5 (B6 ?_);unfold unpack;rw[oS];have e1:(tp.map fun x=>((false:Bool),assign (.Name x.1.2.1 x.2) env)).length=tp.length:=by rw[f7]
 have e2:(tp.map fun x=>((false:Bool),assign (.Name x.1.2.1 x.2) env)).findIdx? (·.1)=none:=by
  rw[List.findIdx?_eq_none_iff];intro x hx;obtain⟨y,-,rfl⟩:=m5.mp hx;rfl
 have e3:(tp.map fun x=>((false:Bool),assign (.Name x.1.2.1 x.2) env)).map (·.2)=tp.map fun x=>assign (.Name x.1.2.1 x.2) env:=by rw[x9];rfl
 simp only[e1,e2,e3];exact c5 (u9 (y2 h (fun vs s' z=>y2 z (fun _ s'' q=>e6 q) fun _ _ e=>e) fun _ _ e=>e))
theorem yT (env:Env) (tp:pA):((tp.map fun x=>x.1.2.1).reverse.map fun n=>bindName env n)=((tp.map (·.1)).reverse).map fun x=>bindName env x.2.1:=by
 rw[←I2,←I2,x9,x9];rfl
theorem yB (hc:c.Ok B) (hh:c.hd=true) {e:X} {ee:Expr} {tp:pA} {k:Nat} {tpos pos:Pos} (ht:∀x∈tp,x.1∈c.vars∧(x.1.2.2=true→c.ck x.1.2.1)) (nd:(tp.map (·.1.1)).Nodup) (hok:qM ee=true) (hn:cZ ee=true) (he:EX B c Sp gv e ee):
  ES1 B c Sp gv (.assignT (tp.map (·.1.1)) e) (.Assign [.Tuple (kR tp) k tpos] ee pos):=by
 intro m σ s Kn Kr Kb Kc KE h S;have hsw:swapsWithSole [.Tuple (kR tp) k tpos] ee pos.line c.env=pure false:=show swapsWith ee (some (.Tuple (kR tp) k tpos)) pos.line c.env=pure false from eZ hn
 refine cN.stand ?_;refine er hsw ?_;refine aa (ac ?_);refine(he _ _ _ _ _ h S).thenS fun v J M0 M3 M6 ⟨d,r,kk⟩=>?_;refine av fun gP gO=>?_;refine aj (BQ kk) fun ds z1_ k1=>?_;subst z1_;refine aj (cy k1) fun m' es k2=>?_;refine jw r.inv fun a vs n z3_ h1 p1 r1 l1=>?_;subst z3_;have lenV:vs.length=tp.length:=by rw[r1.length,←gT es,f7]
 have unp {A:Around} {E:Value→Shared→Prop} {Q:List Value→Shared→Prop}:=IT hc M3 h1 lenV (A:=A) (E:=E) (Q:=Q);refine gO ?_;rcases vR (tp:=tp) (env:=c.env) (k:=k) (tpos:=tpos) hok with q|⟨q,hl⟩
 ·exact q▸(wpG.any (c5 (e6 (uF (k:=k) (unp (hc.handled hh) fun M8 M7 MM=>mf hc tp vs ds m m' M8 _ ht M7 (MM.rvs hc r1) es fun N2 MU MT=>⟨m',J,MU,MM.nx.trans MT,k2⟩)))))
 ·refine er q ?_;refine wpG.any (c5 (e6 ?_));rw[uA,f7];refine c5 (wpAny_rule (c5 (unp (hc.handled hh) fun M8 M7 MM=>c5 ?_)));rw[yT];refine pZ hc (tp.map (·.1)).reverse vs.reverse ds.reverse m m' M8 _ (fun x hx=>?_) M7 (Fh (MM.rvs hc r1)) ?_ fun N2 MU MT=>?_
  ·refine aj (m5.mp (z5.mp hx)) fun y hy z2_=>?_;subst z2_;exact ht y hy
  ·have e2:((tp.map (·.1)).reverse.map (·.1))=(tp.map (·.1.1)).reverse:=by rw[I2,x9];rfl
   exact e2▸(rW (by rw[f7];exact hl) nd es)
  ·exact e6 ⟨m',J,MU,MM.nx.trans MT,k2⟩
end
section
set_option backward.match.sparseCases false
noncomputable def cW:List (Nat×Int):=[(116,9),(110,10),(114,13),(34,34),(39,39),(92,92)]
theorem fc {c k:Nat} {i:Int} {r:Option Int} {ps:List (Nat×Int)} (h:r=ps.lookup c):(if c=k then some i else r)=((k,i)::ps).lookup c:=by
 rw[j5];by_cases q:c=k
 ·exact er (i7 q) (er (A5.mpr q) rfl)
 ·rw[i3 q,j6.mpr q];exact h
theorem oQ (c:Nat):bP c=cW.lookup c:=fc (fc (fc (fc (fc (fc rfl)))))
def VI (o:Option Value):Option Int→Prop
 |some i=>∃t,o=some (.int i t)
 |none=>o=none
def sR (ps:List (Nat×Int)) (f:PySem.Str→Option Value):Prop:=(∀x c,x.cps.toList=[c]→VI (f x) (ps.lookup c))∧∀x,x.cps.toList=[]→f x=none
noncomputable def qA:Value→Value→Option (List Nat×Int)
 |.str s _,.int i _=>some (s.cps.toList,i)
 |_,_=>none
noncomputable def pIs (p:Nat×Int):Option (List Nat×Int):=some ([p.1],p.2)
theorem lI (h:qA k v=some (l,i)):∃s t u,k= .str s t∧v= .int i u∧s.cps.toList=l:=by
 cases k<;>try exact noS h
 cases v<;>try exact noS h
 refine am (Prod.mk.inj (c7 h)) fun e1 e2=>?_;exact⟨_,_,_,rfl,by rw[e2],e1⟩
theorem tT {p:Nat×Int} {ps:List (Nat×Int)} {s:PySem.Str} {u:Tok} {f g:PySem.Str→Option Value} (hs:s.cps.toList=[p.1]) (h1:f s=some (.int p.2 u)) (h2:∀x,s≠x→f x=g x) (G:sR ps g):sR (p::ps) f:=by
 refine⟨fun x c hx=>?_,fun x hx=>?_⟩
 ·refine er j5 ?_;by_cases q:c=p.1
  ·rw[q,l9];rw[q,←hs] at hx;refine er (lA hx) ?_;exact⟨u,h1⟩
  ·refine er (j6.mpr q) (er (h2 x fun z=>q (j2 (hx.symm.trans (z▸hs))).1) ?_);exact G.1 x c hx
 ·refine er (h2 x fun z=>by rw[←z,hs] at hx;exact nomatch hx) ?_;exact G.2 x hx
theorem xH:sR [] fun _=>none:=⟨fun _ _ _=>rfl,fun _ _=>rfl⟩
theorem oF (x s:PySem.Str) (t:Tok):Value.isStrOf x (.str s t)=decide (s=x):=by
 show(s==x)=_;by_cases h:s=x
 ·subst h;simp
 ·rfl
theorem Dl (ps:List (Nat×Int)):∀(es:List DictEntry),es.map (fun e=>qA e.key e.val)=ps.map pIs→sR ps fun k=>(es.find? fun e=>Value.isStrOf k e.key).map (·.val):=by
 induction ps with
 |nil=>
  intro es h;refine er (List.map_eq_nil_iff.mp h) ?_;exact xH
 |cons p ps ih=>
  intro es h
  induction es with
  |nil=>exact nomatch h
  |cons e es _=>
   refine am (j2 h) fun ha hb=>?_;refine eB (lI ha) fun s t u hk hv hs=>?_;refine tT hs (u:=u) ?_ (fun x ne=>?_) (ih es hb)
   ·rw[K1,hk,oF,f9 rfl,←hv];rfl
   ·rw[K1,hk,oF,c9 ne]
theorem KW (ps:List (Nat×Int)):∀(kvs:List (PySem.Str×Value)),kvs.map (fun p=>qA (.str p.1 0) p.2)=ps.map pIs→sR ps fun k=>valueAt kvs k:=by
 unfold valueAt
 induction ps with
 |nil=>
  intro es h;refine er (List.map_eq_nil_iff.mp h) ?_;exact xH
 |cons p ps ih=>
  intro es h
  induction es with
  |nil=>exact nomatch h
  |cons e es _=>
   refine am (j2 h) fun ha hb=>?_;refine eB (lI ha) fun s t u hk hv hs=>?_;obtain rfl:=(Value.str.inj hk).1;refine tT hs (u:=u) ?_ (fun x ne=>?_) (ih es hb)
   ·rw[K1,f9 rfl,←hv];rfl
   ·exact er K1 (er (c9 ne) rfl)
structure KD (B:Bs) (E:Addr):Prop where
 g:B.mg "ESCAPES"=some (.ref E)
 sys:(E==sysModules)=false
 es:∃es n,B.K.lookup E=some ⟨.type "dict",none,.dict es n,#[]⟩∧KeysLit B.w.params es.toList∧es.toList.map (fun e=>qA e.key e.val)=cW.map pIs
theorem KD.map (K:KD B E) (X:B.K.In h):∃f,h.MapOf (PySem.strKind B.prog B.w) E f∧sR cW f:=by
 refine aZ K.es fun es n hl hk hm=>?_;refine⟨_,mapOf_K X hl hk,?_⟩;have:=Dl cW es.toList hm;obtain⟨l⟩:=es
 simpa [findBy] using this
section
variable {KE:Ke}
theorem uX (r:Rv B P h v (.str l)):∃x t,v= .str x t∧x.cps.toList=l:=by
 refine av fun gP gO=>?_;refine aZ r.inv fun x t e hx _=>?_;refine gO ?_;exact⟨x,t,e,hx⟩
theorem tS {d:Addr} {f:PySem.Str→Option Value} {v:Value} {k:Nat} {i:Int} {K:Kx} (hm:s.heap.MapOf (PySem.strKind B.prog B.w) d f) (hf:sR cW f) (S:St B c m σ s) (r:Rv B (Pr σ c.F) s.heap v (.str [k])) (e:bP k=some i) (kk:K (.int i) σ) {ev es:Expr}:
  dA B c (subscriptTail ev es (.ref d) v) m σ s (PV B c K) KE:=by
 refine dU (uX r) fun x t z2_ hx=>?_;subst z2_;have:=hf.1 x k hx;rw[←oQ,e] at this;refine av fun gP gO=>?_;refine ar this fun u hu=>?_;refine ar (jV es (.ref d) (.str x t)) fun ops ho=>?_;refine gO ?_;exact tail_any hm.typeIs F.slot_dict_getitem.lookup (wpAny_getItem_of (strKind_is B.prog B.w x t) hm hu ⟨σ,S.toks _,.toks ..,_,.int i u,kk⟩) ho
theorem oP {d:V} {K:Kx} (k:jk d fun x=>ig x fun c=>cS (bP c) fun i=>K (.int i) σ):∃c i,d= .str [c]∧bP c=some i∧K (.int i) σ:=by
 refine av fun gP gO=>?_;refine aj (gy k) fun c e k1=>?_;refine aj (cy k1) fun i h k2=>?_;refine gO ?_;exact⟨c,i,e,h,k2⟩
theorem JZ (hc:c.Ok B) (K:KD B E) (ha:EX B c Sp gv a ea) (hki:c.env.kindOf "ESCAPES"=some .globalImplicit):EX B c Sp gv (.esc true a) (.Subscript (.Name "ESCAPES" np) ea pos):=by
 intro m σ s Kk KE h S;rw[ey];refine aa (wpG.any (dr hc S K.g hki (by decide) ?_));refine(Tri.hold (ha _ _ _ _ _ h S)).bind fun w M2 M8 M7 MM ⟨e,MR,MP⟩=>.stand ?_;refine av fun gP gO=>?_;refine aZ (oP MP) fun ch i z2_ he kk=>?_;subst z2_;refine aj (K.map M7.inK) fun f hm hf=>?_;refine gO ?_;exact(tS hm hf M7 MR he kk).up
noncomputable def AU:V→Option Bool
 |.str [c]=>some (bP c).isSome
 |.str []=>some false
 |_=>none
set_option tactic.hygienic true in
theorem JK (hc:c.Ok B) (K:KD B E) (S:St B c m σ s) (r:Rv B (Pr σ c.F) s.heap v d) (hb:AU d=some b)
  (h:∀s',St B c m σ s'→Nq c σ s σ s'→Q (.bool b) s'):wpAny (model B.prog B.w) c.A (compareOp .In v (.ref E)) Q Er s:=by
 refine aj (K.map S.inK) fun f hm hf=>?_;have fin:∀x t,v= .str x t→(f x).isSome=b→wpAny (model B.prog B.w) c.A (compareOp .In v (.ref E)) Q Er s:=by
  rintro x t rfl e;refine wpAny_in_of (strKind_is B.prog B.w x t) K.sys hm ?_;exact e▸(h _ (S.toks _) (.toks ..))
 cases d<;>try exact noS hb
 rename_i l
 rcases l with _|⟨k,_|⟨k2,l⟩⟩
 ·refine dU (uX r) fun x t z2_ hx=>?_;subst z2_;refine fin x t rfl ?_;rw[hf.2 x hx];exact c7 hb
 ·refine dU (uX r) fun x t z2_ hx=>?_;subst z2_;have:=hf.1 x k hx;rw[←oQ] at this;refine fin x t rfl (Eq.trans ?_ (c7 hb));generalize bP k=o at this
  induction o with
  |none=>rw[show f x=none from this];rfl
  |some i=>obtain⟨u,hu⟩:=this;rw[hu];rfl
 ·exact noS hb
set_option tactic.hygienic true in
theorem su {d:V} {K:Bool→Sto→Prop} (k:match d with|.str [c]=>K (bP c).isSome σ|.str []=>K false σ|_=>False):∃b,AU d=some b∧K b σ:=by
 cases d<;>try exact k.elim
 rename_i l
 rcases l with _|⟨c,_|⟨c2,l⟩⟩
 ·exact⟨_,rfl,k⟩
 ·exact⟨_,rfl,k⟩
 ·exact k.elim
theorem Dx (hc:c.Ok B) (K:KD B E) (ha:EX B c Sp gv a ea) (hki:c.env.kindOf "ESCAPES"=some .globalImplicit):ET B c Sp gv (.inEsc a) (.Compare ea [.In] [.Name "ESCAPES" np] pos):=by
 intro m σ s Kk KE h S;refine(ha _ _ _ _ _ h S).bind fun v J M0 M3 M6 ⟨d,r,k⟩=>?_;refine aa (ay (wpG.any (dr hc M3 K.g hki (by decide) ?_)));refine Tri.stand ?_;refine aj (su k) fun b hb kk=>?_;refine Tri.bind (P:=fun u M1 s'=>u= .bool b∧Kk b M1) (wpG.any (F8 (JK hc K M3 r hb fun s' S' N'=>⟨J,S',N',rfl,kk⟩))) fun u ML N2 MU MT ⟨q,N0⟩=>?_;subst q;exact .hold (wpG.any (A0 ⟨ML,MU,.refl ..,N0⟩))
theorem tG {α β:Type} {f:α→β} {l:List α} (h:(l.map f).Nodup):l.Nodup:=(List.pairwise_map.mp h).imp fun n e=>n (congrArg _ (e))
abbrev DkL:=List ((PySem.Str×Nat×Pos)×(Int×Nat×Pos))
noncomputable def qY (dk:DkL):List (Option Expr):=dk.map fun x=>some (.Constant (.str x.1.1) x.1.2.1 x.1.2.2)
noncomputable def qX (dk:DkL):List Expr:=dk.map fun x=>.Constant (.int x.2.1) x.2.2.1 x.2.2.2
noncomputable def kj (env:Env) (pos:Pos) (dk:DkL):List (Sem Value×Sem Value):=dk.map fun x=>(eval (.Constant (.str x.1.1) x.1.2.1 x.1.2.2) env,do let v ←eval (.Constant (.int x.2.1) x.2.2.1 x.2.2.2) env;standAt pos;Pure.pure v)
theorem tY (env:Env) (pos:Pos):∀dk:DkL,(evalEachOpt (qY dk) env).zip ((evalEach (qX dk) env).map fun v=>do let x ←v;standAt pos;Pure.pure x)=(kj env pos dk).map fun p=>(some p.1,p.2)
 |[]=>rfl
 |x::dk=>congrArg (_:: ·) (tY env pos dk)
theorem xN:∀(dk:DkL) (s:Shared) (Q:List (Value×Value)→Shared→Prop),
  (∀vs kvs t,Carries (PySem.strKind prog w) vs kvs→kvs.map (fun p=>qA (.str p.1 0) p.2)=dk.map (fun x=>some (x.1.1.cps.toList,x.2.1))→Q vs {s with toks:=t})→wpAny (model prog w) A (evalPairs (kj env pos dk)) Q E s
 |[],s,Q,h=>evalPairs_nil (h [] [] s.toks trivial rfl)
 |x::dk,s,Q,h=>by
  refine evalPairs_cons ?_;refine wpAny_mkText ?_;refine c5 (wpAny_mkInt (c5 (B6 (e6 ?_))));refine xN dk _ _ fun vs kvs t hc hm=>?_;exact h _ ((x.1.1,.int x.2.1 _)::kvs) t ⟨strKind_is prog w _ _,rfl,hc⟩ (by rw[j3,j3,hm];rfl)
theorem Gu (hc:c.Ok B) {a:X} {ea:Expr} {dk:DkL} {dpos pos:Pos} (hdk:dk.map (fun x=>some (x.1.1.cps.toList,x.2.1))=cW.map pIs) (ha:EX B c Sp gv a ea):EX B c Sp gv (.esc false a) (.Subscript (.Dict (qY dk) (qX dk) dpos) ea pos):=by
 intro m σ s Kk KE h S;rw[ey];have h0:kj c.env dpos dk≠[]:=by
  intro z
  induction dk with
  |nil=>cases hdk
  |cons x dk=>cases z
 have hlen:(kj c.env dpos dk).length≤15:=by
  have:=congrArg List.length hdk;rw[f7] at this;unfold kj;rw[f7,this];decide
 refine Tri.bind (P:=fun v M1 s'=>M1=σ∧∃d f,v= .ref d∧s'.heap.MapOf (PySem.strKind B.prog B.w) d f∧sR cW f∧Pr σ c.F d) (wpG.any (wpAny_Dict_pairs (knd:=PySem.strKind B.prog B.w) (tY c.env dpos dk) h0 hlen ?_)) fun v J M0 M3 M6 q0_=>?_
 ·refine xN dk _ _ fun vs kvs t hcar hkv=>⟨kvs,hcar,.new s.heap,fun h' hd hsb=>?_⟩;have hkv':kvs.map (fun p=>qA (.str p.1 0) p.2)=cW.map pIs:=hkv.trans hdk;have nd:(kvs.map (·.1)).Nodup:=by
   have e1:(kvs.map (fun p=>qA (.str p.1 0) p.2)).map (fun o=>o.map (·.1))=(kvs.map (fun p=>p.1.cps.toList)).map some:=by
    simp only[x9,x9];refine K5 fun p hp=>?_;have:qA (.str p.1 0) p.2∈cW.map pIs:=by rw[←hkv'];exact r6 hp
    refine aj (m5.mp this) fun q _ hq=>?_;refine av fun gP gO=>?_;refine eB (lI hq.symm) fun s' t' u' hk hv hs=>?_;refine gO ?_;injection hk with hk;subst hk
    show Option.map (·.1) (qA (.str p.1 0) p.2)=some p.1.cps.toList;rw[←hq,hs];rfl
   have n1:((kvs.map (fun p=>p.1.cps.toList)).map some).Nodup:=by rw[←e1,hkv'];decide
   have n2:=tG n1;have e2:kvs.map (fun p=>p.1.cps.toList)=(kvs.map (·.1)).map (fun x=>x.cps.toList):=by rw[x9];rfl
   simp only[e2] at n2;exact tG n2
  simp only[merged_nil_of_nodup kvs nd] at hd;have keep:∀b o,s.heap.get? b=some o→h'.get? b=some o:=fun b o q=>(hsb.2 b (s9 (o6 q))).trans (f5 _ q);exact⟨σ,S.kept hc keep _,.kept c σ keep _,rfl,_,_,rfl,hd.mapOf,KW _ _ hkv',S.fresh.1,S.fresh.2.1⟩
 ·obtain⟨e1,d,f,e2,hm,hf,hp⟩:=q0_;subst e1;subst e2;refine(Tri.hold (ha _ _ _ _ _ h M3)).bind fun w M2 M8 M7 MM ⟨e,MR,MP⟩=>.stand ?_;refine av fun gP gO=>?_;refine aZ (oP MP) fun ch i z2_ he kk=>?_;subst z2_;refine gO ?_;refine av fun gP gO=>?_;refine sN hm fun o es ep ho hrest=>?_;refine gO ?_;exact(tS (d:=d) (f:=f) ⟨o,es,ep,(MM.nx.keep hc d o hp ho).2,hrest⟩ hf M7 MR he kk).up
end
end
structure KI (B:Bs):Prop where
 kin:∀i<3,∀j<3,i≠j→kin_not B.K (B.ca i) (B.ca j)=true
 pg:∀i<3,plainGet B.K (B.ca i) "__class__"=true
 hasDict:∀i<3,hasDictIn B.K (B.ca i)=true
 cls:∀i<3,findIn B.K (.ref (B.ca i)) "__class__"=some (some (.builtin "object.__class__"))
 sp:specialIn B.K (.builtin "object.__class__") "__get__"=some (some (.builtin "getset_descriptor.__get__"))
 tk:takesIn B.K (.builtin "object.__class__")=some true
 mro:∀i<3,mroIn B.K (B.ca i) (.type "object")=some true
section
variable {KE:Ke}
theorem Gd (hK:Ks B) (K:KI B) (hi:i<3) (S:St B c m σ s) (r:Rv B (Pr σ c.F) s.heap v (.fobj C fs))
  (h:∀s',St B c m σ s'→Nq c σ s σ s'→Q (.bool (C==i)) s'):wpAny (model B.prog B.w) c.A (call (.builtin "isinstance") [v,.ref (B.ca i)]) Q E s:=by
 refine av fun gP gO=>?_;obtain⟨x,dx,o,mm,vals,rfl,lt,hx,hcl,hdx,hda,hp,hq,hn,hv,hr⟩:=r.inv;refine sN (id hn) fun od es ep hod _=>?_;have I:InstAt s.heap x o (B.ca C) (some od):=⟨hx,hcl,by unfold notCls;rw[hda],by rw[hdx];exact hod⟩;refine gO ?_;by_cases q:C=i
 ·subst q;have:=h s S (.refl ..);rw[l9] at this;exact isi_call S.inK (fun M=>I.type) (by unfold isIn;simp) (Value.noConfusion) this
 ·rw[j6.mpr q] at h;exact kin_callC S.inK I (K.kin C lt i hi q) (K.pg C lt) (K.hasDict C lt) (K.cls C lt) K.sp K.tk (K.mro C lt) (h _ (S.toks _) (.toks ..))
theorem wi {ea:Expr} {id:PySem.Str} {np2:Pos} (hst:az ea=true):bo [ea,.Name id np2]=true:=by
 have q:bo [ea,.Name id np2]=(az ea&&(true&&true)):=rfl;rw[q,hst];rfl
theorem xD (hc:c.Ok B) (hK:Ks B) (K:KI B) {a:X} {ea:Expr} {i:Nat} {id:PySem.Str} (hi:i<3) (ha:EX B c Sp gv a ea) (hst:az ea=true) (hg:B.mg "isinstance"=none) (hki:c.env.kindOf "isinstance"=some .globalImplicit)
  (hgi:B.mg id=some (.ref (B.ca i))) (hid:c.env.kindOf id=some .globalImplicit) (hd:(id==("__debug__":PySem.Str))=false) {np np2 pos:Pos}:EX B c Sp gv (.isin i a) (.Call (.Name "isinstance" np) [ea,.Name id np2] [] pos):=by
 intro m σ s K' KE h S;refine Tri.mono (P:=fun v M1 s'=>∃b,v= .bool b∧K' (.bool b) M1) ?_ fun v J M0 M3 M6 q0_=>by obtain⟨b,q,kk⟩:=q0_;exact⟨.bool b,q▸ .bool b,kk⟩
 show Tri B c (eval (.Name "isinstance" np) c.env>>=fun f=>PySem.callWith pos f [] (backTo pos (starEach [ea,.Name id np2] c.env)) []) m σ s _ KE;refine aa (wpG.any (tM hc S hg PyProof.Rows.Boot.«isinstance» (by decide) hki (by decide) ?_));refine Tri.bind (P:=fun a M1 s'=>∃v C fs,a=⟨[v,.ref (B.ca i)],[]⟩∧Rv B (Pr M1 c.F) s'.heap v (.fobj C fs)∧K' (.bool (C==i)) M1) (.hold ?_) fun a J M0 M3 M6 ⟨v,C,fs,q,r,kk⟩=>.stand ?_
 ·refine er (bY hst) ?_;show Tri B c ((eval ea c.env>>=fun v=>Pure.pure [v]>>=fun here=>holding here (eval (.Name id np2) c.env>>=fun v=>Pure.pure [v]>>=fun here=>holding here (Pure.pure [])>>=fun r=>Pure.pure (here++r))>>=fun r=>Pure.pure (here++r))>>=_) m σ s _ KE;refine Tri.bind (P:=fun vs M1 s'=>∃v C fs,vs=[v,.ref (B.ca i)]∧Rv B (Pr M1 c.F) s'.heap v (.fobj C fs)∧K' (.bool (C==i)) M1) ?_ fun vs J M0 M3 M6 q0_=>?_
  ·refine(ha _ _ _ _ _ h S).bind fun v J M0 M3 M6 q0_=>?_;obtain⟨d,r,k⟩:=q0_;refine av fun gP gO=>?_;refine dU (zb k) fun C fs z2_ kk=>?_;subst z2_;refine gO ?_;refine aa (ac (aa (ay (aa (wpG.any (dr hc M3 hgi hid hd ?_))))));exact aa (ac (aa (ay (ac (ac (ac ⟨J,M3,.refl ..,v,C,fs,rfl,r,kk⟩))))))
  ·refine eB q0_ fun v C fs q r kk=>?_;subst q;refine ay ?_;exact aa (ac (aa (ac (ac ⟨J,M3,.refl ..,v,C,fs,rfl,r,kk⟩))))
 ·subst q;have hpl:((backTo pos (starEach [ea,.Name id np2] c.env)).any (·.1)||([]:List (Option PySem.Str×Sem Value)).any (·.1.isNone))=false:=by rw[iY (wi hst)];rfl
  have run:Tri B c (call (.builtin "isinstance") [v,.ref (B.ca i)]) m J M0 (fun v M1 s'=>∃b,v= .bool b∧K' (.bool b) M1) KE:=
   wpG.any (Gd hK K hi M3 r fun s' S' N'=>⟨J,S',N',_,rfl,kk⟩)
  refine aj (qB.b (M:=model B.prog B.w) (h:=M0.heap) "isinstance") fun kp hkp L=>?_;refine er hpl ?_;refine aa (wpG.any (L.here ?_));have marked (mk:Value):Tri B c (callMarked mk (.builtin "isinstance") [v,.ref (B.ca i)] []) m J M0 (fun v M1 s'=>∃b,v= .bool b∧K' (.bool b) M1) KE:=by unfold callMarked;exact tb run
  rcases hkp with rfl|rfl|rfl<;>first|exact Tri.tailCall run|exact Tri.ite (Tri.tailCall run) (Tri.tailCall (marked _))
theorem GF (hc:c.Ok B) (hK:Ks B) (K:KI B) {a:X} {ea:Expr} {i:Nat} {id:PySem.Str} (hi:i<3) (ha:EX B c Sp gv a ea) (hst:az ea=true) (hg:B.mg "isinstance"=none) (hki:c.env.kindOf "isinstance"=some .globalImplicit)
  (hgi:B.mg id=some (.ref (B.ca i))) (hid:c.env.kindOf id=some .globalImplicit) (hd:(id==("__debug__":PySem.Str))=false) {np np2 pos:Pos}:ET B c Sp gv (.isin i a) (.Call (.Name "isinstance" np) [ea,.Name id np2] [] pos):=
 kF rfl (xD hc hK K hi ha hst hg hki hgi hid hd) fun m σ K KE h=>h
theorem iT {F:Addr→Prop} {h:Heap} {σ M1:Sto} (hs:Sub M1 σ):∀a o,Pr σ F a→h.get? a=some o→Pr M1 F a∧h.get? a=some o:=fun a o p e=>by
 refine⟨⟨?_,p.2⟩,e⟩;cases q:M1 a with
 |none=>rfl
 |some ob=>have:=hs a ob q;rw[p.1] at this;exact noS this
theorem Fz.unb (z:Fz σ M1 d e) (h:d= .unb):e= .unb:=by
 cases z<;>first|exact h|exact V.noConfusion h
theorem AV {σ M1:Sto} {fs gs:Nat→V} {mm:PySem.Str→Option Value} {vals:Nat→Value} (zs:∀i,Fz σ M1 (fs i) (gs i)) (hv:∀i,(∃z,fs i=z∧z≠ .unb)→mm (aq i)=some (vals i)) (i:Nat) (h:∃z,gs i=z∧z≠ .unb):mm (aq i)=some (vals i):=by
 refine aj h fun z q nz=>?_;exact hv i ⟨fs i,rfl,fun u=>nz (q▸(zs i).unb u)⟩
theorem Fz.rv {F:Addr→Prop} {h:Heap} {σ M1:Sto} (H:HR B F σ h) (hs:Sub M1 σ) {d e:V} (z:Fz σ M1 d e) {v:Value} (r0:Rv B (Pr σ F) h v d):Rv B (Pr M1 F) h v e:=by
 have pv {a:Addr} {o:AObj} (e:σ a=some o):¬F a:=H.priv a (by rw[e];exact E4 _);refine Fz.rec (motive_1:=fun d e _=>∀{v:Value},Rv B (Pr σ F) h v d→Rv B (Pr M1 F) h v e) (motive_2:=fun ds es _=>∀{vs:List Value},Rvs B (Pr σ F) h vs ds→Rvs B (Pr M1 F) h vs es) ?_ ?_ ?_ ?_ ?_ ?_ ?_ z r0
 ·exact fun d v r=>r.keep (iT hs)
 ·intro a xs ys e1 e2 _ ih v r;cases r.inv;refine aZ (H.ob a _ e1) fun vs n h0 rs l=>?_;exact .lst h0 ⟨e2,pv e1⟩ (ih rs) (by rw[←(ih rs).length,rs.length];exact l)
 ·intro C dd fs gs e1 e2 zs ih v r;refine av fun gP gO=>?_;refine El r.inv fun x o z2_ lt hx hcl hdx hda hp=>?_;subst z2_;refine mW (H.ob dd _ e1) fun mm vals hn hv hr _=>?_;refine gO ?_;exact .fobj lt hx hcl hdx hda (iT hs x o hp hx).1 ⟨e2,pv e1⟩ hn.ns (AV zs hv) fun i=>ih i (hr i)
 ·intro xs ys _ ih v r;refine jw r.inv fun a vs n z3_ h0 p rs l=>?_;subst z3_;exact .tup h0 (iT hs _ _ p h0).1 (ih rs) (by rw[←(ih rs).length,rs.length];exact l)
 ·intro C fs gs zs ih v r;refine av fun gP gO=>?_;obtain⟨x,dx,o,mm,vals,rfl,lt,hx,hcl,hdx,hda,hp,hq,hn,hv,hr⟩:=r.inv;refine gO ?_;exact .fobj lt hx hcl hdx hda (iT hs _ _ hp hx).1 ((jW (iT hs) hq hn).1) hn (AV zs hv) fun i=>ih i (hr i)
 ·intro vs r;cases r.inv;exact .nil
 ·intro d e ds es _ _ ih1 ih2 vs r;refine aZ r.inv fun v r' z2_ a b=>?_;subst z2_;exact .cons (ih1 a) (ih2 b)
theorem JY (hc:c.Ok B) {a:X} {ea:Expr} (ha:EX B c Sp gv a ea):EX B c Sp gv (.frz a) ea:=by
 intro m σ s K KE h S;refine aJ (ha _ _ _ _ _ h S) (fun v M0 q0_=>?_) fun _ _ x=>x;obtain⟨J,M3,M6,d,r,d',M1,hs,z,k⟩:=q0_;have N:Nq c J M0 M1 M0:=⟨.refl ..,fun b e=>.inl (by
  refine ar (z9.mp e) fun o ho=>?_;rw[hs b o ho];exact fun z=>nomatch z),.refl _⟩
 have H:HR B c.F M1 M0.heap:=⟨fun b o e=>(M3.hr.ob b o (hs b o e)).keep (iT hs) fun _ q=>q,fun b e=>by
  refine ar (z9.mp e) fun o ho=>?_;exact M3.hr.priv b (by rw[hs b o ho];exact fun z=>nomatch z),fun b e=>by
  refine ar (z9.mp e) fun o ho=>?_;exact M3.hr.new b (by rw[hs b o ho];exact fun z=>nomatch z)⟩
 exact⟨M1,M3.step hc N H,M6.trans N,d',z.rv M3.hr hs r,k⟩
end
section
set_option backward.match.sparseCases false
section
variable {KE:Ke}
theorem MC (h:jl 3 d d' σ=some es):∃xs,cb σ d=some xs∧es=xs.reverse:=by
 refine aj (i8.mp h) fun xs e z2_=>?_;subst z2_;exact⟨xs,e,rfl⟩
theorem BZ (r:Rv B P h v d) (e:cb σ d=some xs):∀M1,jy d σ M1→cb M1 d=some xs:=by
 intro M1 hl;cases d<;>try exact e
 exact(congrArg (fun o=>match o with|some (.list xs)=>some xs|_=>none) hl).trans e
theorem Fb (hc:c.Ok B) (hh:c.hd=true) (hst:az ee=true) (he:EX B c Sp gv e ee) (hg:B.mg "reversed"=none) (hki:c.env.kindOf "reversed"=some .globalImplicit):
  jR B c Sp gv 3 e .absent (.Call (.Name "reversed" rp) [ee] [] rpos):=by
 refine⟨rfl,fun m σ s KK KE h S=>?_⟩;refine iE hc (xs:=.cons e .nil) (eE hst) (cz hst he ej hc) hg PyProof.Rows.Boot.«reversed» (by decide) hki (by decide) (fun _ _=>.t _) (K:=fun ds J=>ig ds fun d=>cS (jl 3 d .none J) fun es=>KK es (jy d J) J) (wL h) S fun vs ds J M0 M3 M6 r k=>?_;refine av fun gP gO=>?_;refine aj (gx k) fun d z1_ k=>?_;subst z1_;refine aj (xX r) fun v z1_ r'=>?_;subst z1_;refine aj (cy k) fun es e2 k=>?_;refine aj (MC e2) fun xs e3 z2_=>?_;subst z2_;refine eA (cI M3.hr r' e3) fun a vs n z3_ g1 r1 l1=>?_;subst z3_;have hn:(vs.toArray.size:Int) - 1=(xs.length:Int) - 1 - ((0:Nat):Int):=by rw[←r1.length];exact(Int.sub_zero _).symm
 refine gO ?_;refine(show dA B c _ m J M0 _ KE from call_reversed_list ⟨_,g1,rfl,n,rfl⟩ ?_).up;have MM:Nq c J M0 J {M0 with heap:=M0.heap.push (revObj a ((vs.toArray.size:Int) - 1))}:=Nq.push c J M0 _ M0.toks;refine⟨J,M3.push hc _ M0.toks,MM,fun Q E hQ=>?_⟩;refine wpAny_pyIter_revIter (⟨_,i2 _ rfl,rfl,by rw[hn];rfl⟩) (hQ _ _ (.ref a) d _ (jy d J) xs.reverse _ (by rw[r7];exact l1) (.inl rfl) ?_ ⟨M3.fresh.1,M3.fresh.2.1⟩ (fun _ hc hh=>Gc hc hh) ⟨g6 _,(⟨_,i2 _ rfl,rfl,by rw[hn];rfl⟩)⟩ (BZ r' e3) e3 (MM.rv hc r') k);cases q:s.heap.get? M0.heap.objs.size with
 |none=>rfl
 |some o=>exact(bJ (M6.ev.alive _ (by rw[q];rfl)) (bQ _)).elim
end
theorem oE:∀{l:List (PySem.Str×NameKind)} {y:PySem.Str},l.lookup y=some k→(y,k)∈l
 |[],_,h=>nomatch h
 |(n,q)::l,y,h=>by
  rw[j5] at h;by_cases z:y=n
  ·subst z;rw[l9] at h;cases h;exact .head _
  ·rw[j6.mpr z] at h;exact .tail _ (oE h)
theorem jL:∀(names:List (PySem.Str×NameKind)) (cs:List (PySem.Str×Addr)),(∀x∈names,x.2= .free→(env.cells.lookup x.1).isSome=true)→
  ∃cl,(forIn names cs fun x r=>match x with|(name,kind)=>if (kind==NameKind.free)=true then do let __do_lift ←cellOf env name;pure (ForInStep.yield ((name,__do_lift)::r)) else pure (ForInStep.yield r):Sem (List (PySem.Str×Addr)))=pure cl∧
   (∀y,(y,.free)∈names→cl.lookup y=env.cells.lookup y)∧∀y,(y,.free)∉names→cl.lookup y=cs.lookup y
 |[],cs,_=>⟨cs,rfl,fun y h=>(nomatch h),fun _ _=>rfl⟩
 |(n,k)::names,cs,h=>by
  simp only[I9];by_cases z:k= .free
  ·subst z;refine ar (d9.mp (h (n,.free) (.head _) rfl)) fun a ha=>?_;have e:cellOf env n=pure a:=by unfold cellOf;rw[ha]
   simp only[l9,if_true,e,pure_bind];refine eQ (jL names ((n,a)::cs) fun x hx=>h x (.tail _ hx)) fun cl e1 e2 e3=>?_;refine⟨cl,e1,fun y hy=>?_,fun y hy=>?_⟩
   ·by_cases q:(y,NameKind.free)∈names
    ·exact e2 y q
    ·rcases d0.mp hy with w|w
     ·cases w;rw[e3 _ q,ha,j5,l9]
     ·exact(q w).elim
   ·refine er (e3 y fun w=>hy (.tail _ w)) (er j5 ?_);by_cases q:y=n
    ·exact absurd (q▸ .head _) hy
    ·exact er (j6.mpr q) rfl
  ·have z':(k==NameKind.free)=false:=by cases k<;>first|rfl|exact absurd rfl z
   simp only[z',Bool.false_eq_true,if_false,pure_bind];refine eQ (jL names cs fun x hx=>h x (.tail _ hx)) fun cl e1 e2 e3=>?_;refine⟨cl,e1,fun y hy=>?_,fun y hy=>e3 y fun w=>hy (.tail _ w)⟩;rcases d0.mp hy with w|w
   ·cases w;exact absurd rfl z
   ·exact e2 y w
theorem wC (h:∀x∈scope.names,x.2= .free→(env.cells.lookup x.1).isSome=true):∃cl,closureFor scope env=pure cl∧∀y,scope.names.lookup y=some .free→cl.lookup y=env.cells.lookup y:=by
 refine av fun gP gO=>?_;refine eQ (jL scope.names [] h) fun cl e1 e2 _=>?_;refine gO ?_;refine⟨cl,?_,fun y hy=>e2 y (oE hy)⟩;unfold closureFor;dsimp only;rw[e1,pure_bind]
theorem iM {env:Env} {x:PySem.Str}:∀{names:List (PySem.Str×NameKind)},(names.map fun(n,k)=>if (k== .free&&env.scope.kind== .function&&env.kindOf n==some .cell)=true then(n,NameKind.cell) else(n,k)).lookup x=
  (names.lookup x).map fun k=>if (k== .free&&env.scope.kind== .function&&env.kindOf x==some .cell)=true then NameKind.cell else k
 |[]=>rfl
 |(n,k)::r=>by
  have e:(if (k== .free&&env.scope.kind== .function&&env.kindOf n==some .cell)=true then(n,NameKind.cell) else(n,k))=(n,if (k== .free&&env.scope.kind== .function&&env.kindOf n==some .cell)=true then NameKind.cell else k):=by split<;>rfl
  refine er j3 ?_;dsimp only;refine er e (er j5 (er j5 ?_));by_cases z:x=n
  ·subst z;rw[l9];rfl
  ·rw[j6.mpr z];exact(@iM env x r)
theorem lJ {scope:Scope} {cl:List (PySem.Str×Addr)} {C:Addr} {env:Env} {x:PySem.Str}:(compEnvC scope cl C env).kindOf x=(scope.names.lookup x).map fun k=>if (k== .free&&env.scope.kind== .function&&env.kindOf x==some .cell)=true then NameKind.cell else k:=iM
end
noncomputable def ij (c:FC) (scope:Scope) (cl:List (PySem.Str×Addr)) (C D:Addr) (vars:List (Nat×PySem.Str×Bool)) (σ:Sto) (s:Shared):FC:=
 {env:=compEnvC scope cl C c.env,fenv:=c.fenv,outer:=c.outer,A:=c.A,F:=fun a=>c.F a∨a=C∨a=D,own:=fun a=>a=C∨a=D,vars:=vars,lev:=c.lev,hd:=c.hd,cw:=false,M4:=σ,NA:=c.sl,MW:=s}
structure CompV (c:FC) (scope:Scope) (i:Nat) (x:PySem.Str) (fr:List (Nat×PySem.Str×Bool)):Prop where
 kind:scope.kind= .function
 nocell:∀y∈scope.names,y.2≠ .cell
 locs:∀y∈scope.names,y.2= .local→scope.names.lookup y.1=some .local
 var:scope.names.lookup x=some .local
 free:∀y∈scope.names,y.2= .free→∃j,(j,y.1,true)∈c.vars
 ofr:∀y∈fr,y.2.2=true∧y∈c.vars∧scope.names.lookup y.2.1=some .free
 ix:∀y∈fr,y.1≠i
section
variable {scope:Scope} {i:Nat} {x:PySem.Str} {fr:List (Nat×PySem.Str×Bool)} {cl:List (PySem.Str×Addr)} {C D:Addr}
theorem CompV.closed (hc:c.Ok B) (V:CompV c scope i x fr):∃cl,closureFor scope c.env=pure cl∧∀y,scope.names.lookup y=some .free→cl.lookup y=c.env.cells.lookup y:=
 wC fun y hy e=>by
  refine ar (V.free y hy e) fun j hj=>?_;obtain⟨-,a,ha,-⟩:=hc.vcell _ hj rfl;rw[ha];rfl
theorem CompV.cases (V:CompV c scope i x fr) (h:y∈(i,x,false)::fr):y=(i,x,false)∨(y∈fr∧y.2.2=true∧y∈c.vars∧scope.names.lookup y.2.1=some .free∧y.1≠i):=by
 rcases d0.mp h with e|e
 ·exact .inl e
 ·have q7:=V.ofr y e;exact .inr ⟨e,q7.1,q7.2.1,q7.2.2,V.ix y e⟩
theorem DI (hc:c.Ok B) (V:CompV c scope i x fr) (hcl:∀y,scope.names.lookup y=some .free→cl.lookup y=c.env.cells.lookup y) (S:St B c m σ s) (hC:s.heap.get? C=none) (hD:s.heap.get? D=none):
  (ij c scope cl C D ((i,x,false)::fr) σ s).Ok B:=by
 have dead:∀a,c.F a→a≠C:=fun a h z=>by subst z;have:=(S.fal a h).1;rw[hC] at this;exact noT this
 have nx:∀y∈fr,y.2.1≠x:=fun y hy z=>by have:=(V.ofr y hy).2.2;rw[z,V.var] at this;exact nomatch this
 refine⟨V.kind,hc.globals,hc.bns,hc.frames,hc.frame,hc.fkind,fun env he L h=>.inl (hc.priv env he L h),hc.handled,hc.guards,hc.depth,hc.units,.inl rfl,fun a h=>.inr h,fun a h=>?_,fun a h=>.inl h,fun y hy e=>?_,fun y hy e=>?_,fun y hy a e h=>?_,fun y hy z hz e=>?_,fun y hy z hz e=>?_,fun y hy z hz e1 e2 e=>?_,fun a h z=>S.hr.priv a h (hc.slF z)⟩
 ·rcases h with rfl|rfl
  ·exact hC
  ·exact hD
 ·rcases V.cases hy with rfl|⟨-,q,-⟩
  ·exact lJ.trans (by rw[V.var];rfl)
  ·rw[q] at e;cases e
 ·rcases V.cases hy with rfl|⟨-,-,q,r,-⟩
  ·exact noT e
  ·refine av fun gP gO=>?_;obtain⟨-,a,ha,hF,-⟩:=hc.vcell y q e;refine gO ?_;refine⟨?_,a,(hcl _ r).trans ha,.inl hF,fun h=>nomatch h⟩;simp only[show(ij c scope cl C D ((i,x,false)::fr) σ s).env.kindOf y.2.1=_ from lJ,r,Option.map_some]
   split
   ·exact .inl rfl
   ·exact .inr rfl
 ·rcases V.cases hy with rfl|⟨-,-,q,r,-⟩
  ·exact noT e
  ·obtain⟨-,a',ha,hF,-⟩:=hc.vcell y q e;have:a=a':=c7 (h.symm.trans ((hcl _ r).trans ha));subst this;exact dead a hF
 ·rcases V.cases hy with rfl|⟨-,-,q,-,n⟩<;>rcases V.cases hz with rfl|⟨-,-,q',-,n'⟩
  ·rfl
  ·exact(n' e.symm).elim
  ·exact(n e).elim
  ·exact hc.inj y q z q' e
 ·rcases V.cases hy with rfl|⟨h1,-,q,-,n⟩<;>rcases V.cases hz with rfl|⟨h2,-,q',-,n'⟩
  ·rfl
  ·exact(nx z h2 e.symm).elim
  ·exact(nx y h1 e).elim
  ·exact hc.injn y q z q' e
 ·rcases V.cases hy with rfl|⟨-,-,q,r,n⟩<;>rcases V.cases hz with rfl|⟨-,-,q',r',n'⟩
  ·rfl
  ·exact noT e1
  ·exact noT e2
  ·refine hc.injc y q z q' e1 e2 ?_;rw[←hcl _ r,←hcl _ r'];exact e
theorem wy (hc:c.Ok B) (V:CompV c scope i x fr) (hcl:∀y,scope.names.lookup y=some .free→cl.lookup y=c.env.cells.lookup y) (S:St B c m σ s) (M3:St B c m J M0) (M6:Nq c σ s J M0) (hC:M0.heap.get? C=none) (hD:M0.heap.get? D=none)
  (hk:∀b o,M0.heap.get? b=some o→h'.get? b=some o) (hn:h'.Ns C fun _=>none) (hDa:(h'.get? D).isSome=true):St B (ij c scope cl C D ((i,x,false)::fr) σ s) (upd m i .unb) J {M0 with heap:=h',toks:=tk}:=by
 have keep:∀a o,Pr J c.F a→M0.heap.get? a=some o→Pr J (ij c scope cl C D ((i,x,false)::fr) σ s).F a∧h'.get? a=some o:=fun a o p q=>
  ⟨⟨p.1,fun z=>by rcases z with z|rfl|rfl;exact p.2 z;rw[hC] at q;cases q;rw[hD] at q;cases q⟩,hk a o q⟩
 have base:∀a,M0.heap.get? a=none→B.base.get? a=none:=fun a h=>by
  cases q:B.base.get? a with
  |none=>rfl
  |some o=>have:=M3.stays a o q;rw[h] at this;exact noS this
 refine⟨⟨⟨_,hn,fun y hy e=>?_⟩,fun y hy e a ha=>?_⟩,⟨fun a o e=>?_,fun a e z=>?_,M3.hr.new⟩,fun a h=>?_,fun b o e=>hk b o (M3.stays b o e),?_,M6.ev.trans (.of_keeps hk) (fun a _ z=>z) (fun a _ z=>z),M6.nd,M6.same⟩
 ·rcases V.cases hy with rfl|⟨-,q,-⟩
  ·exact .inl (cV ..)
  ·rw[q] at e;cases e
 ·rcases V.cases hy with rfl|⟨-,-,q,r,n⟩
  ·exact noT e
  ·refine av fun gP gO=>?_;refine aj (M3.loc.2 y q e a ((hcl _ r).symm.trans ha)) fun ov z1_ k=>?_;obtain⟨o,ho,hd⟩:=z1_;refine gO ?_;exact(dD m .unb n)▸(⟨ov,⟨o,hk _ _ ho,hd⟩,k.imp id fun⟨v,h1,h2⟩=>⟨v,h1,h2.keep keep⟩⟩)
 ·exact(M3.hr.ob a o e).keep keep fun o q=>hk a o q
 ·rcases z with z|rfl|rfl
  ·exact M3.hr.priv a e z
  ·exact e (M3.hr.dead hC)
  ·exact e (M3.hr.dead hD)
 ·rcases h with h|rfl|rfl
  ·refine am (M3.fal a h) fun q w=>?_;refine ar (d9.mp q) fun o ho=>?_;exact⟨by show(h'.get? a).isSome=true;rw[hk _ _ ho];rfl,w⟩
  ·exact⟨dO hn,base _ hC⟩
  ·exact⟨hDa,base _ hD⟩
 ·exact cA M3.ff fun env he L hL o q=>⟨o.slots,hk _ _ q⟩
theorem St.iter' (hc:c.Ok B) (S:St B c m σ s) (hI:c.MW.heap.get? I=none) (hB:B.base.get? I=none) (hp:Pr σ c.F I) (ho:s.heap.get? I=some o) (hT:o.cls= .type T) (hd:o.data= .fields vs)
  (hs:∀b o,b≠I→s.heap.get? b=some o→h'.get? b=some o) (k:Nat):St B c m σ {s with heap:=h',toks:=k}:=by
 have ne:∀{a:Addr} {o:Obj} {h:Heap},h.get? I=none→h.get? a=some o→a≠I:=fun h1 h2 z=>by subst z;rw[h1] at h2;exact noS h2
 have b:Bump B c.sl c.F σ s.heap h':=by
  refine⟨fun a x p e=>?_,fun a x z e=>hs a x (fun w=>z (w▸hp.1)) e,fun a x f e=>⟨x.slots,hs a x (fun w=>hp.2 (w▸f)) e⟩,fun a x l f e=>hs a x (fun w=>hp.2 (w▸f)) e⟩;by_cases w:a=I
  ·subst w;rw[ho] at e;cases e;exact .inr (.inr ⟨⟨T,hT⟩,vs,hd⟩)
  ·exact .inl (hs a x w e)
 refine(S.bump hc b (fun a o q=>hs a o (ne hB q) (S.stays a o q)) ⟨fun a o e z f=>hs a o (ne hI e) (S.ev.same a o e z f),fun a o e z f=>?_,fun a e=>?_⟩).toks k
 ·refine ar (S.ev.slots a o e z f) fun sl q=>?_;exact⟨sl,hs a _ (ne hI e) q⟩
 ·refine ar (d9.mp e) fun o ho=>?_;refine ar (d9.mp (S.ev.alive a e)) fun o' ho'=>?_;rw[hs a o' (ne hI ho) ho'];rfl
end
def lm (B:Bs) (c:FC) (Sp:Nat→aP) (gv:Nat→List Nat) (cond:X) (ifs:List Expr):Prop:=(cond= .absent∧ifs=[])∨∃e,ifs=[e]∧ET B c Sp gv cond e
def hH (B:Bs) (c:FC) (D:Addr) (σ:Sto) (h:Heap) (acc:List V):Prop:=∃vs n,h.get? D=some (lstO vs n)∧Rvs B (Pr σ c.F) h vs acc
section
variable {KE:Ke}
theorem GV {cond:X} {ifs:List Expr} (h:lm B c Sp gv cond ifs) {K:Bool→Sto→Prop} (hv:vcT Sp gv cond m σ K KE) (S:St B c m σ s):
  Tri B c (forIn ifs true fun e r=>if r=true then do let ok ←isTrue e c.env (eval e c.env);pure (ForInStep.yield ok) else pure (ForInStep.yield r)) m σ s (fun t M1 _=>K t M1) KE:=by
 rcases h with ⟨rfl,rfl⟩|⟨e,rfl,h⟩
 ·exact Tri.pure (P:=fun t M1 _=>K t M1) S hv
 ·exact((h _ _ _ _ _ hv S).bind fun t J M0 M3 M6 k=>Tri.pure (P:=fun r M1 _=>∃t,r=ForInStep.yield t∧K t M1) M3 ⟨t,rfl,k⟩).bind fun r J M0 M3 M6 ⟨t,e,k⟩=>by
   subst e;exact Tri.pure M3 k
theorem hH.step (hc:c.Ok B) (S:St B c m σ s) (N:Nq c σ s J M0) (hD:c.own D) (hDs:¬c.sl D) (h:hH B c D σ s.heap acc):hH B c D J M0.heap acc:=by
 refine dU h fun vs n e r=>?_;exact⟨vs,n,N.ev.same D _ e (S.own_not hc hD) hDs,N.rvs hc r⟩
theorem DX (hc:c.Ok B) (S:St B c m σ s) (hD:c.own D) (hDL:D≠c.env.locals) (hDc:∀y∈c.vars,y.2.2=true→c.env.cells.lookup y.2.1≠some D) (h:hH B c D σ s.heap acc) (hlen:acc.length≤ah) (r:Rv B (Pr σ c.F) s.heap v d)
  (hQ:∀h',St B c m σ {s with heap:=h'}→hH B c D σ h' (acc++[d])→(∀b,b≠D→h'.get? b=s.heap.get? b)→(∀a o,Pr σ c.F a→s.heap.get? a=some o→Pr σ c.F a∧h'.get? a=some o)→Q .none {s with heap:=h'}):
  wpAny (model B.prog B.w) c.A (call (.builtin "list.append") [.ref D,v]) Q E s:=by
 refine av fun gP gO=>?_;refine dU h fun vs n e r0=>?_;refine gO ?_;refine wpAny_list_append_plain (hl:=⟨n,e⟩) (hsz:=aS (by rw[←r0.length] at hlen;simpa using hlen)) (fun h' q0_ hs=>?_);refine ar q0_ fun n' hp=>?_;have keep:∀a o,Pr σ c.F a→s.heap.get? a=some o→Pr σ c.F a∧h'.get? a=some o:=fun a o p q=>⟨p,(hs.2 a fun z=>p.2 (z▸hc.ownF _ hD)).trans q⟩;have hl:Loc B c m σ h':=by
  refine⟨?_,fun y hy e a ha=>?_⟩
  ·refine aj S.loc.1 fun mm hn k=>?_;exact⟨mm,hn.sameBut hs (v8 hDL),fun y hy e=>(k y hy e).imp id fun q0_=>by obtain⟨w,q,rw'⟩:=q0_;exact⟨w,q,rw'.keep keep⟩⟩
  ·refine aj (S.loc.2 y hy e a ha) fun ov z1_ k=>?_;obtain⟨o,ho,hd⟩:=z1_;exact⟨ov,⟨o,(hs.2 a fun z=>hDc y hy e (z▸ha)).trans ho,hd⟩,k.imp id fun q0_=>by obtain⟨w,q,rw'⟩:=q0_;exact⟨w,q,rw'.keep keep⟩⟩
 refine am (S.own hc hD e hp (fun vs z=>by cases z) hs s.toks hl) fun S' _=>?_;refine hQ h' S' ⟨vs++[v],n',by rw[hp];simp[lstO],(r0.keep keep).append (.cons (r.keep keep) .nil)⟩ hs.2 keep
theorem zw (hc:c.Ok B) (hh:c.hd=true) {i:Nat} {x:PySem.Str} (hx:(i,x,false)∈c.vars) {cond elt:X} {ifs:List Expr} {ee iter:Expr} {px pos:Pos} {scope:Scope} (hcond:lm B c Sp gv cond ifs) (helt:EX B c Sp gv elt ee)
  {I D:Addr} {It:Nat→Heap→Prop} {N1:Value} {MX:V} {items:List V} {src live:Sto→Prop} (T:Itr B c I It N1 MX items src) (hl:∀σ,live σ→src σ) (hlen:items.length≤ah) (hI:c.MW.heap.get? I=none) (hB:B.base.get? I=none)
  (hD:c.own D) (hDL:D≠c.env.locals) (hDs:¬c.sl D) (hDI:D≠I) (hIL:I≠c.env.locals) (hDc:∀y∈c.vars,y.2.2=true→c.env.cells.lookup y.2.1≠some D) {KK:List V→Sto→Prop} {Nd:Nat→V} {R:Result→Shared→Prop}
  (hR:∀acc m' M1 s',St B c m' M1 s'→hH B c D M1 s'.heap acc→KK acc M1→R (.ok .next) s'):
  ∀rest k acc m' J M0,items.drop k=rest→k≤items.length→acc.length≤k→(∀j,j≠i→m' j=Nd j)→
   jQ live (fun v ML k=>vcT Sp gv cond (upd Nd i v) ML (fun t MQ=>match t with|true=>vcX Sp gv elt (upd Nd i v) MQ (fun r MV=>k (some r) MV) (fun _ _ _=>False)|false=>k none MQ) (fun _ _ _=>False)) KK rest acc J→
   St B c m' J M0→It k M0.heap→src J→Rv B (Pr J c.F) M0.heap N1 MX→Pr J c.F I→hH B c D J M0.heap acc→
   bC (model B.prog B.w) c.A (.compLoop (.ListComp ee [⟨.Name x px,iter,ifs,0⟩] scope pos) 0 (.ref I) (.ref D) c.env) R M0:=by
 intro rest
 induction rest with
 |nil=>
  intro k acc m' J M0 hr hk ha hm h M3 hit hs rv hp hacc;have hk':k=items.length:=by
   have:=o9.mp hr;lia
  subst hk';refine aI rfl ?_;show wpG _ c.A ((compTurn (.ListComp ee [⟨.Name x px,iter,ifs,0⟩] scope pos) 0 (.ref I) (.ref D) c.env).onRaise (fun x=>do noteFrame x c.env;theTreesLotGoes x)) _ _ M0;refine bb ?_;rw[compTurn_list];refine aa (aR (aa (wpG.any (T.done J M0 hit M3.hr rv hs _ _ fun h' tk hk=>?_))));refine av fun gP gO=>?_;refine eB (T.obj _ _ hit) fun o Ty vs o1 o2 o3=>?_;refine dU hacc fun ws n e r=>?_;refine gO ?_;exact ac (hR acc m' J _ (M3.iter' hc hI hB hp o1 o2 o3 hk tk) ⟨ws,n,hk _ _ hDI e,r.alt fun a x p q=>by
   by_cases w:a=I
   ·subst w;rw[o1] at q;cases q;exact .inr (.inr ⟨⟨Ty,o2⟩,vs,o3⟩)
   ·exact .inl (hk a x w q)⟩ h)
 |cons e es ih=>
  intro k acc m' J M0 hr hk ha hm h M3 hit hs rv hp hacc;have hke:items[k]?=some e:=by
   have:=congrArg List.head? hr;rw[B9] at this;exact this
  have hr':items.drop (k+1)=es:=by rw[←K7,hr];rfl
  refine aI rfl ?_;show wpG _ c.A ((compTurn (.ListComp ee [⟨.Name x px,iter,ifs,0⟩] scope pos) 0 (.ref I) (.ref D) c.env).onRaise (fun x=>do noteFrame x c.env;theTreesLotGoes x)) _ _ M0;refine bb ?_;rw[compTurn_list];refine aa (aR (aa (wpG.any (T.item k J M0 e hke hit M3.hr rv hs _ _ fun v h' tk re hit' hk=>?_))));refine av fun gP gO=>?_;refine eB (T.obj _ _ hit) fun o Ty vs o1 o2 o3=>?_;refine eB (T.obj _ _ hit') fun o' Ty' vs' p1 p2 p3=>?_;have alt:∀a x,Pr J c.F a→M0.heap.get? a=some x→Alt B x (h'.get? a):=fun a x p q=>by
   by_cases w:a=I
   ·subst w;rw[o1] at q;cases q;exact .inr (.inr ⟨⟨Ty,o2⟩,vs,o3⟩)
   ·exact .inl (hk a x w q)
  have NG:=rv.alt alt;refine dU hacc fun ws n e0 r0=>?_;have NY:hH B c D J h' acc:=⟨ws,n,hk _ _ hDI e0,r0.alt alt⟩;refine gO ?_;refine aa (ci (a:=()) rfl ?_);refine aa (aa (aR (wpG.any (lB hc hx (fun z=>nomatch z) (M3.iter' hc hI hB hp o1 o2 o3 hk tk) re fun N2 MU MT ex=>?_))));have hu:upd m' i e=upd Nd i e:=by
   funext j;by_cases z:j=i
   ·subst z;rw[cV,cV]
   ·exact er (dD _ _ z) (er (dD _ _ z) (er (hm j z) rfl))
  rw[hu] at MU;have NQ:=MT.rv hc NG;have NX:hH B c D J N2.heap acc:=by
   refine dU NY fun ws n e0 r0=>?_;exact⟨ws,n,(ex rfl D hDL).trans e0,MT.rvs hc r0⟩
  have Ou:=(ex rfl I hIL).trans p1;refine aa (aJ (GV hcond h MU) (fun t Np q0_=>?_) fun _ _ q0_=>by obtain⟨_,_,_,_,_,_,_,_,z⟩:=q0_;exact z.elim);obtain⟨MQ,N3,N5,Nw⟩:=q0_;have p4:=N5.nx.keep hc I o' hp Ou;have NM:=NX.step hc MU N5 hD hDs;have again:∀(acc':List V) (MV:Sto) (Ni:Shared),acc'.length≤k+1→St B c (upd Nd i e) MV Ni→(live MV∧jQ live (fun v ML k=>vcT Sp gv cond (upd Nd i v) ML (fun t MQ=>match t with|true=>vcX Sp gv elt (upd Nd i v) MQ (fun r MV=>k (some r) MV) (fun _ _ _=>False)|false=>k none MQ) (fun _ _ _=>False)) KK es acc' MV)→
    Ni.heap.get? I=some o'→Rv B (Pr MV c.F) Ni.heap N1 MX→Pr MV c.F I→hH B c D MV Ni.heap acc'→bC (model B.prog B.w) c.A (.compLoop (.ListComp ee [⟨.Name x px,iter,ifs,0⟩] scope pos) 0 (.ref I) (.ref D) c.env) R Ni:=fun acc' MV Ni hl' NF z Ot Oa Oo Ox=>
   ih (k+1) acc' _ MV Ni hr' ((i5.mp hke).1) hl' (fun j z=>dD _ _ z) z.2 NF (T.frame _ _ _ hit' fun x q=>by rw[p1] at q;cases q;exact Ot) (hl _ z.1) Oa Oo Ox
  induction t with
  |false=>exact ac ⟨rfl,again acc MQ Np (by lia) N3 Nw p4.2 (N5.rv hc NQ) p4.1 NM⟩
  |true=>
   refine aa (aa (aJ (helt _ _ _ _ _ Nw N3) (fun v Ni q0_=>?_) fun _ _ q0_=>by obtain⟨_,_,_,_,_,_,_,_,z⟩:=q0_;exact z.elim));obtain⟨MV,NF,Nz,d,r,Os⟩:=q0_;refine aa (wpG.any (DX hc NF hD hDL hDc (NM.step hc N3 Nz hD hDs) (by lia) r fun OI NV Ow Oe Oq=>wpG.any ?_));exact e6 (ac ⟨rfl,again _ MV _ (by simp;lia) NV Os ((Oe I (v8 hDI)).trans (Nz.nx.keep hc I o' p4.1 p4.2).2) ((Nz.rv hc (N5.rv hc NQ)).keep Oq) (Nz.nx.keep hc I o' p4.1 p4.2).1 Ow⟩)
end
section
variable {m':Nat→V} {M1:Sto} {s':Shared} {KE:Ke} {scope:Scope} {i:Nat} {x:PySem.Str} {fr:List (Nat×PySem.Str×Bool)} {cl:List (PySem.Str×Addr)} {C D:Addr}
theorem ul {α:Type} {M:Model} {A:Around} {E:Value→Shared→Prop} {cc:Prop} [Decidable cc] {pos:Pos} {k:PUnit→Sem α} {Q:α→Shared→Prop} (h:wpG M A (k ()) Q E s):wpG M A (if cc then(standAt pos>>=k) else k ()) Q E s:=by
 split
 ·exact aa (aR h)
 ·exact h
noncomputable def FC.plus (c:FC) (C:Addr):FC:={c with F:=fun a=>c.F a∨a=C}
theorem FE (hc:c.Ok B) (C:Addr):(c.plus C).Ok B:=
 {hc with
  priv:=fun env he L h=>.inl (hc.priv env he L h)
  ownF:=fun a h=>.inl (hc.ownF a h)
  vcell:=fun y hy e=>let ⟨k,a,h1,h2,h3⟩:=hc.vcell y hy e;⟨k,a,h1,.inl h2,h3⟩}
theorem St.unplus (hc:c.Ok B) (S:St B (c.plus C) m σ s) (hCF:¬c.F C) (h0:c.MW.heap.get? C=none) (hb:B.base.get? C=none) (hs:Heap.SameBut C s.heap h') (tk:Nat):St B c m σ {s with heap:=h',toks:=tk}:=by
 have keep:∀a o,Pr σ (c.plus C).F a→s.heap.get? a=some o→Pr σ c.F a∧h'.get? a=some o:=fun a o p q=>⟨⟨p.1,fun z=>p.2 (.inl z)⟩,(hs.2 a fun z=>p.2 (.inr z)).trans q⟩;have nF:∀a,c.F a→a≠C:=fun a f z=>hCF (z▸f);have n0:∀{a:Addr} {o:Obj} {h:Heap},h.get? C=none→h.get? a=some o→a≠C:=fun h1 h2 z=>by subst z;rw[h1] at h2;exact noS h2
 refine⟨⟨?_,fun y hy e a ha=>?_⟩,⟨fun a o e=>?_,fun a e z=>S.hr.priv a e (.inl z),S.hr.new⟩,fun a f=>?_,fun b o e=>(hs.2 b (n0 hb e)).trans (S.stays b o e),?_,⟨fun a o e z f=>(hs.2 a (n0 h0 e)).trans (S.ev.same a o e z f),fun a o e z f=>?_,fun a e=>?_⟩,S.nd,S.same⟩
 ·refine aj S.loc.1 fun mm hn k=>?_;exact⟨mm,hn.sameBut hs (nF _ (hc.ownF _ hc.ownL)),fun y hy e=>(k y hy e).imp id fun q0_=>by obtain⟨v,q,r⟩:=q0_;exact⟨v,q,r.keep keep⟩⟩
 ·refine av fun gP gO=>?_;refine aj (S.loc.2 y hy e a ha) fun ov z1_ k=>?_;obtain⟨o,ho,hd⟩:=z1_;obtain⟨-,a',ha',hF,-⟩:=hc.vcell y hy e;have:a=a':=c7 (ha.symm.trans ha');subst this;refine gO ?_;exact⟨ov,⟨o,(hs.2 a (nF a hF)).trans ho,hd⟩,k.imp id fun q0_=>by obtain⟨v,q,r⟩:=q0_;exact⟨v,q,r.keep keep⟩⟩
 ·exact(S.hr.ob a o e).keep keep fun o' q=>(hs.2 a fun z=>S.hr.priv a (by rw[e];exact fun w=>nomatch w) (.inr z)).trans q
 ·refine am (S.fal a (.inl f)) fun q w=>?_;exact⟨by show(h'.get? a).isSome=true;rw[hs.2 a (nF a f)];exact q,w⟩
 ·exact cA S.ff fun env he L hL o q=>⟨o.slots,(hs.2 L (nF L (hc.priv env he L hL))).trans q⟩
 ·refine ar (S.ev.slots a o e z f) fun sl q=>?_;exact⟨sl,(hs.2 a (n0 h0 e)).trans q⟩
 ·refine ar (d9.mp e) fun o ho=>?_;show(h'.get? a).isSome=true;rw[hs.2 a (n0 h0 ho)];exact S.ev.alive a e
theorem Nx.unplus (N:Nx c σ s MZ s') (hC:s.heap.get? C=none) (hs:Heap.SameBut C s'.heap h') (tk:Nat):Nx c σ s MZ {s' with heap:=h',toks:=tk}:=by
 have n0:∀{a:Addr} {o:Obj},s.heap.get? a=some o→a≠C:=fun h2 z=>by subst z;rw[hC] at h2;exact noS h2
 refine⟨⟨fun a o e z f=>(hs.2 a (n0 e)).trans (N.ev.same a o e z f),fun a o e z f=>?_,fun a e=>?_⟩,N.nd,N.same⟩
 ·refine ar (N.ev.slots a o e z f) fun sl q=>?_;exact⟨sl,(hs.2 a (n0 e)).trans q⟩
 ·refine ar (d9.mp e) fun o ho=>?_;show(h'.get? a).isSome=true;rw[hs.2 a (n0 ho)];exact N.ev.alive a e
theorem Nq.unplus (N:Nq c σ s MZ s') (hC:s.heap.get? C=none) (hs:Heap.SameBut C s'.heap h') (tk:Nat):Nq c σ s MZ {s' with heap:=h',toks:=tk}:=by
 have n0:∀{a:Addr} {o:Obj},s.heap.get? a=some o→a≠C:=fun h2 z=>by subst z;rw[hC] at h2;exact noS h2
 refine⟨⟨fun a o e z f=>(hs.2 a (n0 e)).trans (N.ev.same a o e z f),fun a o e z f=>?_,fun a e=>?_⟩,N.nd,N.same⟩
 ·refine ar (N.ev.slots a o e z f) fun sl q=>?_;exact⟨sl,(hs.2 a (n0 e)).trans q⟩
 ·refine ar (d9.mp e) fun o ho=>?_;show(h'.get? a).isSome=true;rw[hs.2 a (n0 ho)];exact N.ev.alive a e
structure CompEnd (B:Bs) (c:FC) (m:Nat→V) (σ:Sto) (s:Shared) (C D:Addr) (m':Nat→V) (M1:Sto) (s':Shared) (scope:Scope) (cl:List (PySem.Str×Addr)) (vars:List (Nat×PySem.Str×Bool)) (acc:List V):Prop where
 S:St B (ij c scope cl C D vars σ s) m' M1 s'
 acc:hH B (ij c scope cl C D vars σ s) D M1 s'.heap acc
 hC:s.heap.get? C=none
 hD:s.heap.get? D=none
 DC:D≠C
 CF:¬c.F C
 DF:¬c.F D
 Ol:M1 D=none
 ns:∃mm,s'.heap.Ns C mm
theorem CompEnd.exit (hc:c.Ok B) (S:St B c m σ s) {vars:List (Nat×PySem.Str×Bool)} {acc:List V} (Z:CompEnd B c m σ s C D m' M1 s' scope cl vars acc) {mu:Bool} {K:Kx} (k:pQ mu acc M1 K):
  ∃MZ d,St B (c.plus C) m MZ s'∧Nq c σ s MZ s'∧Rv B (Pr MZ (c.plus C).F) s'.heap (.ref D) d∧K d MZ:=by
 refine am k fun hlen k=>?_;have main:∀MZ:Sto,(∀a,a≠D→MZ a=M1 a)→(MZ D=none∨MZ D=some (.list acc))→St B (c.plus C) m MZ s'∧Nq c σ s MZ s'∧∃vs n,s'.heap.get? D=some (lstO vs n)∧Rvs B (Pr MZ (c.plus C).F) s'.heap vs acc:=by
  intro MZ Nk Ov;have keep:∀a o,Pr M1 (ij c scope cl C D vars σ s).F a→s'.heap.get? a=some o→Pr MZ (c.plus C).F a∧s'.heap.get? a=some o:=fun a o p q=>
   ⟨⟨(Nk a fun z=>p.2 (.inr (.inr z))).trans p.1,fun z=>p.2 (z.elim .inl fun z=>.inr (.inl z))⟩,q⟩
  refine dU Z.acc fun vs n hD' r=>?_;have N:Nq c σ s MZ s':=by
   refine⟨Z.S.ev,fun a e=>?_,Z.S.same⟩;by_cases z:a=D
   ·subst z;exact .inr Z.hD
   ·rw[Nk a z] at e;exact Z.S.nd a e
  have hr:HR B (c.plus C).F MZ s'.heap:=by
   refine⟨fun a o e=>?_,fun a e=>?_,fun a e=>?_⟩
   ·by_cases z:a=D
    ·subst z;rcases Ov with q|q
     ·rw[q] at e;exact noS e
     ·rw[q] at e;cases e;exact⟨vs,n,hD',r.keep keep,hlen⟩
    ·rw[Nk a z] at e;exact(Z.S.hr.ob a o e).keep keep fun o' q=>q
   ·by_cases z:a=D
    ·subst z;exact fun w=>w.elim Z.DF Z.DC
    ·rw[Nk a z] at e;exact fun w=>Z.S.hr.priv a e (w.elim .inl fun w=>.inr (.inl w))
   ·by_cases z:a=D
    ·subst z;exact(Z.S.fal _ (.inr (.inr rfl))).2
    ·rw[Nk a z] at e;exact Z.S.hr.new a e
  have MS:=S.step hc N ⟨fun a o e=>(hr.ob a o e).keep (fun y o p q=>⟨⟨p.1,fun z=>p.2 (.inl z)⟩,q⟩) fun o q=>q,fun a e z=>hr.priv a e (.inl z),hr.new⟩;have ll:Loc B (c.plus C) m MZ s'.heap:=by
   have back:∀a o,Pr σ c.F a→s.heap.get? a=some o→Pr MZ (c.plus C).F a∧s'.heap.get? a=some o:=fun a o p q=>by
    have:=N.nx.keep hc a o p q;exact⟨⟨this.1.1,fun z=>z.elim this.1.2 fun z=>by subst z;rw[Z.hC] at q;cases q⟩,this.2⟩
   refine⟨?_,fun y hy e a ha=>?_⟩
   ·refine aj S.loc.1 fun mm hn k=>?_;refine aj MS.loc.1 fun mm' hn' _=>?_;refine⟨mm,nV hn fun o q=>N.ev.any _ o q fun z=>S.hr.priv _ z (hc.ownF _ hc.ownL),fun y hy e=>(k y hy e).imp id fun q0_=>by obtain⟨v,q,r⟩:=q0_;exact⟨v,q,r.keep back⟩⟩
   ·refine aj (S.loc.2 y hy e a ha) fun ov hcell k=>?_;obtain⟨-,a',ha',hF,-⟩:=hc.vcell y hy e;have:a=a':=c7 (ha.symm.trans ha');subst this;exact⟨ov,gX hcell fun o q=>N.ev.any a o q fun z=>S.hr.priv a z hF,k.imp id fun q0_=>by obtain⟨v,q,r⟩:=q0_;exact⟨v,q,r.keep back⟩⟩
  refine⟨⟨ll,hr,fun a f=>f.elim (MS.fal a) fun z=>?_,MS.stays,MS.ff,MS.ev,MS.nd,MS.same⟩,N,vs,n,hD',r.keep keep⟩;subst z;exact Z.S.fal a (.inr (.inl rfl))
 induction mu with
 |false=>
  obtain⟨S'',N'',vs,n,g,rr⟩:=main M1 (fun _ _=>rfl) (.inl Z.Ol);exact⟨M1,.lst acc,S'',N'',.lst g ⟨Z.Ol,fun w=>w.elim Z.DF Z.DC⟩ rr hlen,k⟩
 |true=>
  exact⟨_,.lref D,(main (M1.put D (.list acc)) (fun a z=>aA M1 (.list acc) z) (.inr (ai ..))).1,(main (M1.put D (.list acc)) (fun a z=>aA M1 (.list acc) z) (.inr (ai ..))).2.1,.lref D,k D Z.Ol⟩
theorem wx {R:Result→Shared→Prop} {elt target iter:Expr} {ifs:List Expr} {pos:Pos} {it acc:Value} {env:Env} (h:∀s',s'=s→bC (model B.prog B.w) c.A (.compLoop (.ListComp elt [⟨target,iter,ifs,0⟩] scope pos) 0 it acc env) R s')
  (hi:∀(Q:Value→Shared→Prop) (E:Value→Shared→Prop),Q it s→wpAny (model B.prog B.w) c.A (pyIter it) Q E s):
  bC (model B.prog B.w) c.A (.compStart (.ListComp elt [⟨target,iter,ifs,0⟩] scope pos) 0 it acc env) R s:=by
 refine aI rfl ?_;show wpG _ c.A ((compStart (.ListComp elt [⟨target,iter,ifs,0⟩] scope pos) 0 it acc env).onRaise (fun x=>do noteFrame x env;standAt theWindowsPlace)) _ _ s;refine bb ?_;refine aa (wpG.any (wpAny_askSetting ?_))
 split
 ·first
  |exact ac ⟨rfl,h s rfl⟩
  |exact aa (ac (ac ⟨rfl,h s rfl⟩))
 ·refine aa (nO ?_);exact aa (aR (aa (wpG.any (hi _ _ (ac ⟨rfl,h s rfl⟩)))))
theorem xO (hc:c.Ok B) (hh:c.hd=true) {elt cond e f:X} {kind:Nat} {ee iter:Expr} {ifs:List Expr} {px pos:Pos} (Vc:CompV c scope i x fr) (hs:jR B c Sp gv kind e f iter)
  (hin:∀c':FC,c'.Ok B→c'.hd=true→c'.vars=(i,x,false)::fr→c'.lev=c.lev→(∃cl C,c'.env=compEnvC scope cl C c.env)→lm B c' Sp gv cond ifs∧EX B c' Sp gv elt ee)
  {KK:List V→Sto→Prop} (h:vcX Sp gv e m σ (fun d J=>vcX Sp gv f m J (fun d' M2=>cS (jl kind d d' M2) fun es=>jQ (jy d M2) (fun v ML k=>vcT Sp gv cond (upd m i v) ML (fun t MQ=>match t with|true=>vcX Sp gv elt (upd m i v) MQ (fun r MV=>k (some r) MV) (fun _ _ _=>False)|false=>k none MQ) (fun _ _ _=>False)) KK es [] M2) KE) KE) (S:St B c m σ s) {use:Option (Value→Sem Unit)} {Q:Value→Shared→Prop} {E:Value→Shared→Prop} (hE:∀ev s',PostE B c m σ s KE ev s'→E ev s')
  (hk:∀(cl:List (PySem.Str×Addr)) (C D:Addr) (acc:List V) m' M1 s' (cellsOf:List (PySem.Str×NameKind)→List Value) (vars:List (PySem.Str×NameKind)),CompEnd B c m σ s C D m' M1 s' scope cl ((i,x,false)::fr) acc→KK acc M1→(∀z∈vars,z.2= .local→(compEnvC scope cl C c.env).kindOf z.1=some .local)→
   wpG (model B.prog B.w) c.A (match use with
    |none=>holding [.ref D] (comprehension.letGo (compEnvC scope cl C c.env) cellsOf vars.reverse)>>=fun _=>pure (.ref D)
    |some u=>rule "comprehension.stores-exchanged">>=fun _=>holding (cellsOf vars) (u (.ref D))>>=fun _=>comprehension.letGo (compEnvC scope cl C c.env) cellsOf (vars.reverse.drop 1++vars.reverse.take 1)>>=fun _=>pure .none) Q E s'):
  wpG (model B.prog B.w) c.A (comprehension (.ListComp ee [⟨.Name x px,iter,ifs,0⟩] scope pos) scope c.env iter.pos (newList []) false (eval iter c.env) use) Q E s:=by
 refine aj (Vc.closed hc) fun cl hclos hcl=>?_;unfold comprehension;refine er hclos ?_;refine aa (aJ (hs.2 _ _ _ (fun es live M2=>jQ live (fun v ML k=>vcT Sp gv cond (upd m i v) ML (fun t MQ=>match t with|true=>vcX Sp gv elt (upd m i v) MQ (fun r MV=>k (some r) MV) (fun _ _ _=>False)|false=>k none MQ) (fun _ _ _=>False)) KK es [] M2) _ h S) (fun v M0 q0_=>?_) hE);obtain⟨J,M3,M6,k⟩:=q0_;refine aa (aR (aa (ci (oJ hs.1) (aa (ay (wpG.any (k _ _ fun I It N1 MX src live es M8 hlen NI hI hp T hi hl hsrc r k=>?_)))))));have M7:St B c m J M8∧Nq c J M0 J M8:=by
  rcases NI with rfl|⟨o,rfl⟩
  ·exact⟨M3,.refl ..⟩
  ·exact⟨M3.push hc o M0.toks,Nq.push c J M0 o M0.toks⟩
 have MM:=M6.trans M7.2;replace M7:=M7.1;have fresh:∀a,M8.heap.objs.size≤a→M8.heap.get? a=none:=fun a ha=>by
  cases e:M8.heap.get? a with
  |none=>rfl
  |some o'=>exact(t8.mpr ha (o6 e)).elim
 refine ul (aa (wpG.any (y5 ?_)));refine aa (ac (aa (wpG.any (wpAny_newFunctionEnv Vc.nocell (by intro y hy;simp at hy) (fun MO Nj Nb=>?_) Vc.kind))));generalize hH2:M8.heap.push {cls:=.type "list",dict:=none,data:=.seq ([]:List Value).toArray}=H2 at Nj Nb⊢;generalize hD:M8.heap.objs.size=D at Nj Nb⊢;generalize hCe:H2.objs.size=C at Nj Nb⊢;have hCs:C=D+1:=by rw[←hCe,←hH2,Heap.size_push,hD]
 have hDC:D≠C:=by lia
 have hD0:M8.heap.get? D=none:=fresh D (by lia);have hC0:M8.heap.get? C=none:=fresh C (by lia);have ne:∀{a:Addr} {o:Obj},M8.heap.get? a=some o→a≠C∧a≠D:=fun q=>⟨fun z=>(by subst z;rw[hC0] at q;cases q),fun z=>(by subst z;rw[hD0] at q;cases q)⟩;have old:∀b o,M8.heap.get? b=some o→MO.get? b=some o:=fun b o e=>Nb.extBut b o (ne e).1 (f5 _ (hH2▸f5 _ e));have hDh:=Nb.extBut _ _ hDC (f5 _ (hH2▸hD▸i2 _ rfl));have back:∀a,M8.heap.get? a=none→s.heap.get? a=none:=fun a q=>by
  cases w:s.heap.get? a with
  |none=>rfl
  |some o=>exact(bJ (MM.ev.alive a (by rw[w];rfl)) q).elim
 have aF:∀a,c.F a→a≠C∧a≠D:=fun a f=>by
  refine ar (d9.mp (M7.fal a f).1) fun o ho=>?_;exact ne ho
 have hc':=DI (D:=D) hc Vc hcl S (back C hC0) (back D hD0);have hi':=(T c hc hh).frame 0 _ _ hi fun o q=>old _ _ q;refine eB ((T c hc hh).obj _ _ hi) fun oI TI vI hoI _ _=>?_;have keepF:∀a o,Pr J c.F a→M8.heap.get? a=some o→Pr J (ij c scope cl C D ((i,x,false)::fr) σ s).F a∧MO.get? a=some o:=fun a o p q=>
  ⟨⟨p.1,fun z=>by rcases z with z|z|z;exact p.2 z;exact(ne q).1 z;exact(ne q).2 z⟩,old a o q⟩
 have code:bC (model B.prog B.w) c.A (.compStart (.ListComp ee [⟨.Name x px,iter,ifs,0⟩] scope pos) 0 (.ref I) (.ref D) (compEnvC scope cl C c.env))
   (fun r s'=>r= .ok .next∧∃acc m' M1,St B (ij c scope cl C D ((i,x,false)::fr) σ s) m' M1 s'∧hH B (ij c scope cl C D ((i,x,false)::fr) σ s) D M1 s'.heap acc∧KK acc M1) {M8 with heap:=MO,toks:=M8.toks}:=by
  refine wx (c:=ij c scope cl C D ((i,x,false)::fr) σ s) (fun s' hs'=>?_) fun Q E q=>(T _ hc' hh).self 0 _ hi' Q E q;subst hs';refine zw hc' hh (.head _) (hin _ hc' hh rfl rfl ⟨cl,C,rfl⟩).1 (hin _ hc' hh rfl rfl ⟨cl,C,rfl⟩).2 (T _ hc' hh) hl hlen hI ?_ (.inr rfl) hDC (fun z=>(aF D (hc.slF z)).2 rfl) (fun z=>(ne hoI).2 z.symm) (fun z=>(ne hoI).1 z) (fun y hy e z=>?_) (KK:=KK) (Nd:=m) (fun acc m' M1 s' a b d=>⟨rfl,acc,m',M1,a,b,d⟩) es 0 [] _ J _ G1 (g6 _) (g6 _) (fun j z=>dD _ _ z) k (wy (tk:=M8.toks) hc Vc hcl S M7 MM hC0 hD0 old Nj (by rw[hDh];rfl)) hi' hsrc (r.keep keepF) (keepF I _ hp hoI).1 ⟨[],0,hDh,.nil⟩
  ·cases w:B.base.get? I with
   |none=>rfl
   |some o=>have:=S.stays I o w;rw[hI] at this;exact noS this
  ·rcases Vc.cases hy with rfl|⟨-,-,q,r,-⟩
   ·exact noT e
   ·obtain⟨-,a,ha,hF,-⟩:=hc.vcell y q e;have:D=a:=c7 (z.symm.trans ((hcl _ r).trans ha));exact(aF a hF).2 this.symm
 refine ay (aa (iG (ay (jS (bF code fun r s' hr=>?_) nofun))));refine av fun gP gO=>?_;obtain⟨rfl,acc,m',M1,S',A',k'⟩:=hr;refine aj S'.loc.1 fun mm hn _=>?_;have hv:∀z∈(scope.names.filter fun x=>(x.2== .local||x.2== .cell)&&x.1 !=(".0":PySem.Str)),z.2= .local→
   Env.kindOf (compEnvC scope cl C c.env) z.1=some .local:=fun z hz hl=>lookup_relabel_local (Vc.locs z (E8.mp hz).1 hl)
 have Z:CompEnd B c m σ s C D m' M1 s' scope cl ((i,x,false)::fr) acc:=⟨S',A',back C hC0,back D hD0,hDC,fun z=>(aF C z).1 rfl,fun z=>(aF D z).2 rfl,Decidable.not_not.mp (S'.own_not hc' (.inr rfl)),_,hn⟩;refine gO ?_
 induction use with
 |none=>exact hk cl C D acc m' M1 s' _ _ Z k' hv
 |some u=>exact hk cl C D acc m' M1 s' _ _ Z k' hv
theorem Gv (hc:c.Ok B) (hh:c.hd=true) {mu:Bool} {elt cond e f:X} {kind:Nat} {ee iter:Expr} {ifs:List Expr} {px pos:Pos} (Vc:CompV c scope i x fr) (hs:jR B c Sp gv kind e f iter)
  (hin:∀c':FC,c'.Ok B→c'.hd=true→c'.vars=(i,x,false)::fr→c'.lev=c.lev→(∃cl C,c'.env=compEnvC scope cl C c.env)→lm B c' Sp gv cond ifs∧EX B c' Sp gv elt ee):
  EX B c Sp gv (.comp mu elt cond i kind e f) (.ListComp ee [⟨.Name x px,iter,ifs,0⟩] scope pos):=by
 intro m σ s K KE h S;refine xO hc hh Vc hs hin h S (use:=none) (fun _ _ x=>x) fun cl C D acc m' M1 s' cellsOf vars Z k hv=>?_;obtain⟨mm,hn⟩:=Z.ns;refine aa (ay (wpG.any (wpAny_comp_letGo (cenv:=compEnvC scope cl C c.env) Vc.kind _ s' mm (fun z hz=>hv z (z5.mp hz)) hn fun h' mm' _ hs'=>ac ?_)));refine av fun gP gO=>?_;refine mW (Z.exit hc S k) fun MZ d S'' N'' r k=>?_;have hb:B.base.get? C=none:=by
  cases w:B.base.get? C with
  |none=>rfl
  |some o=>have:=S.stays C o w;rw[Z.hC] at this;exact noS this
 have h0:c.MW.heap.get? C=none:=by
  cases w:c.MW.heap.get? C with
  |none=>rfl
  |some o=>exact(bJ (S.ev.alive C (by rw[w];rfl)) Z.hC).elim
 refine gO ?_;refine⟨MZ,S''.unplus hc Z.CF h0 hb hs' s'.toks,N''.unplus Z.hC hs' s'.toks,d,r.keep fun a o p q=>⟨⟨p.1,fun z=>p.2 (.inl z)⟩,(hs'.2 a fun z=>p.2 (.inr z)).trans q⟩,k⟩
theorem yC (hc:c.Ok B) (hh:c.hd=true) {mu:Bool} {elt cond e f:X} {kind j:Nat} {y:PySem.Str} (hy:(j,y,false)∈c.vars) {ee iter:Expr} {ifs:List Expr} {px py pos spos:Pos} (Vc:CompV c scope i x fr) (hs:jR B c Sp gv kind e f iter)
  (hsw:swapsWith (.ListComp ee [⟨.Name x px,iter,ifs,0⟩] scope pos) (some (.Name y py)) spos.line c.env=pure true)
  (hin:∀c':FC,c'.Ok B→c'.hd=true→c'.vars=(i,x,false)::fr→c'.lev=c.lev→(∃cl C,c'.env=compEnvC scope cl C c.env)→lm B c' Sp gv cond ifs∧EX B c' Sp gv elt ee):
  ES1 B c Sp gv (.assign j (.comp mu elt cond i kind e f)) (.Assign [.Name y py] (.ListComp ee [⟨.Name x px,iter,ifs,0⟩] scope pos) spos):=by
 intro m σ s Kn Kr Kb Kc KE h S;refine er (exec_Assign_Name_used _ _ _ _ hsw) ?_;refine cN.stand ?_;show cN B c ((do let _ ←comprehension (.ListComp ee [⟨.Name x px,iter,ifs,0⟩] scope pos) scope c.env iter.pos (newList []) false (eval iter c.env) (some (assign (.Name y py) c.env)))>>=_) σ s Kn Kr Kb Kc KE;refine aa (aa (xO hc hh Vc hs hin h S (use:=some (assign (.Name y py) c.env)) (fun _ _ x=>x.postS) fun cl C D acc m' M1 s' cellsOf vars Z k hv=>?_));refine av fun gP gO=>?_;refine ar Z.ns fun mm hn=>?_;refine mW (Z.exit hc S k) fun MZ d S'' N'' r k=>?_;have hb:B.base.get? C=none:=by
  cases w:B.base.get? C with
  |none=>rfl
  |some o=>have:=S.stays C o w;rw[Z.hC] at this;exact noS this
 have h0:c.MW.heap.get? C=none:=by
  cases w:c.MW.heap.get? C with
  |none=>rfl
  |some o=>exact(bJ (S.ev.alive C (by rw[w];rfl)) Z.hC).elim
 refine gO ?_;refine aa (nO (aa (ay ?_)));refine aa (aR (wpG.any (lB (FE hc C) hy (fun z=>nomatch z) S'' r fun N2 MU MT ex=>?_)));have Og:N2.heap.Ns C mm:=by
  refine sN hn fun o es ep ho r=>?_;exact⟨o,es,ep,(ex rfl C fun z=>Z.CF (z▸hc.ownF _ hc.ownL)).trans ho,r⟩
 refine aa (wpG.any (wpAny_comp_letGo (cenv:=compEnvC scope cl C c.env) Vc.kind _ N2 mm (fun z hz=>hv z ?_) Og fun h' mm' _ hs'=>ac (ac (ac ?_))))
 ·rcases m8.mp hz with h1|h1
  ·exact z5.mp (List.mem_of_mem_drop h1)
  ·exact z5.mp (List.mem_of_mem_take h1)
 exact⟨_,MZ,MU.unplus hc Z.CF h0 hb hs' N2.toks,(N''.nx.trans (⟨MT.ev,MT.nd,MT.same⟩)).unplus Z.hC hs' N2.toks,k⟩
end
noncomputable abbrev eqS (a b:PySem.Str):Bool:=Fast.sEq a b
theorem aO:eqS a b=true↔a=b:=Fast.sEq_iff
noncomputable def dg (n:PySem.Str):List (PySem.Str×NameKind)→Option NameKind
 |[]=>none
 |(m,k)::r=>match eqS n m with|true=>some k|false=>dg n r
theorem bN:dg n l=l.lookup n:=by
 induction l with
 |nil=>rfl
 |cons x r ih=>
  show(match eqS n x.1 with|true=>some x.2|false=>dg n r)=(match n==x.1 with|true=>some x.2|false=>r.lookup n);refine er ih ?_;by_cases z:n=x.1
  ·rw[z,l9,aO.mpr rfl]
  ·exact er (j6.mpr z) (er (A4.mpr fun q=>z (aO.mp q)) rfl)
structure Cfg where
 vars:List (Nat×PySem.Str×Bool)
 names:List (PySem.Str×NameKind)
 cw:Bool
 hd:Bool
 lev:Nat
 fns:List (PySem.Str×Nat×Nat)
 mts:List (PySem.Str×Nat×Nat)
 news:List (PySem.Str×Nat×Nat)
 gst:List (PySem.Str×Nat)
noncomputable def Ln (k:Option NameKind):Bool:=decide (k=some .globalImplicit)
noncomputable def sL (k:Option NameKind):Bool:=decide (k=some .local)
noncomputable def uU (k:Option NameKind):Bool:=decide (k=some .cell)
noncomputable def Im (k:Option NameKind):Bool:=decide (k=some .free)
theorem rA (h:Ln k=true):k=some .globalImplicit:=c8 h
theorem gK (h:sL k=true):k=some .local:=c8 h
theorem mP (h:uU k=true):k=some .cell:=c8 h
theorem Ge (h:Im k=true):k=some .free:=c8 h
noncomputable def Cfg.gl (Γ:Cfg) (n:PySem.Str):Bool:=Ln (dg n Γ.names)&& !eqS n "__debug__"
noncomputable def Cfg.has (Γ:Cfg) (i:Nat) (n:PySem.Str) (p:Bool→Bool):Bool:=Γ.vars.any fun x=>Nat.beq x.1 i&&(eqS x.2.1 n&&p x.2.2)
noncomputable def pS (t:List (PySem.Str×Nat×Nat)) (n:PySem.Str) (g lev:Nat):Bool:=t.any fun e=>eqS e.1 n&&(Nat.beq e.2.1 g&&Nat.ble e.2.2 lev)
noncomputable def Cfg.fr (Γ:Cfg) (scope:Scope):List (Nat×PySem.Str×Bool):=Γ.vars.filter fun y=>y.2.2&&Im (dg y.2.1 scope.names)
noncomputable def Cfg.inner (Γ:Cfg) (scope:Scope) (i:Nat) (x:PySem.Str):Cfg:={Γ with vars:=(i,x,false)::Γ.fr scope,names:=scope.names,cw:=false}
noncomputable def qR (k:ScopeKind):Bool:=decide (k= .function)
noncomputable def Cfg.comp (Γ:Cfg) (scope:Scope) (i:Nat) (x:PySem.Str):Bool:=
 qR scope.kind&&((scope.names.all fun y=> !uU (some y.2)&&((!sL (some y.2)||sL (dg y.1 scope.names))&&(!Im (some y.2)||Γ.vars.any fun z=>eqS z.2.1 y.1&&z.2.2)))&&(sL (dg x scope.names)&&(Γ.fr scope).all fun y=> !Nat.beq y.1 i))
theorem eU {α:Type} {P:α→Prop} {o:Option {x//P x}} {x:α} (h:o.map (·.1)=some x):P x:=by
 refine aj (i8.mp h) fun y _ z2_=>?_;subst z2_;exact y.2
noncomputable def Li {T:Nat→Type} {P:(k:Nat)→T k→Prop} (o:Option (Σ k,{x:T k//P k x})) (k:Nat):Option {x:T k//P k x}:=o.bind fun s=>if h:s.1=k then some (h▸s.2) else none
abbrev VT:Nat→Type
 |0=>PySem.Str×Pos
 |1=>Expr×Operator×Expr
 |2=>UnaryOp×Expr
 |3=>BoolOp×Expr×Expr
 |4=>Expr×List CmpOp×List Expr
 |5=>Expr×Expr×Expr
 |6=>List Expr×Nat×Pos
 |7=>List Expr
 |8=>Expr×Expr
 |9=>Option Expr×Option Expr
 |10=>Expr×List Expr×Pos
 |11=>Expr×PySem.Str×Pos
 |12=>Expr×Expr×Expr×List Expr×Scope
 |13=>Const×Nat×Pos
 |_=>List (Option Expr)×List Expr
noncomputable def wY (o:BoolOp) (b:Expr) (r:List Expr) (p:Pos):Expr:=match r with|[]=>b|_=>.BoolOp o (b::r) p
def VOf:(k:Nat)→VT k→Expr→Prop
 |0,x,e=>e= .Name x.1 x.2
 |1,x,e=>∃p,e= .BinOp x.1 x.2.1 x.2.2 p
 |2,x,e=>∃p,e= .UnaryOp x.1 x.2 p
 |3,x,e=>∃b r p,e= .BoolOp x.1 (x.2.1::b::r) p∧x.2.2=wY x.1 b r p
 |4,x,e=>∃p,e= .Compare x.1 x.2.1 x.2.2 p
 |5,x,e=>∃p,e= .IfExp x.1 x.2.1 x.2.2 p
 |6,x,e=>e= .Tuple x.1 x.2.1 x.2.2
 |7,x,e=>∃p,e= .List x p
 |8,x,e=>∃p,e= .Subscript x.1 x.2 p
 |9,x,e=>∃p,e= .Slice x.1 x.2 none p
 |10,x,e=>e= .Call x.1 x.2.1 [] x.2.2
 |11,x,e=>e= .Attribute x.1 x.2.1 x.2.2
 |12,x,e=>∃p,e= .ListComp x.1 [⟨x.2.1,x.2.2.1,x.2.2.2.1,0⟩] x.2.2.2.2 p
 |13,x,e=>e= .Constant x.1 x.2.1 x.2.2
 |_+14,x,e=>∃p,e= .Dict x.1 x.2 p
abbrev VS (e:Expr):=Option (Σ k,{x:VT k//VOf k x e})
noncomputable def vB (o:BoolOp) (l:List Expr) (p:Pos):VS (.BoolOp o l p):=match l with|a::b::r=>some ⟨3,(o,a,wY o b r p),b,r,p,rfl,rfl⟩|[_]=>none|[]=>none
noncomputable def vSl (a b s:Option Expr) (p:Pos):VS (.Slice a b s p):=match s with|none=>some ⟨9,(a,b),p,rfl⟩|some _=>none
noncomputable def vCl (f:Expr) (es:List Expr) (ks:List Keyword) (p:Pos):VS (.Call f es ks p):=match ks with|[]=>some ⟨10,(f,es,p),rfl⟩|_::_=>none
noncomputable def vLc (ee:Expr) (gs:List Comprehension) (sc:Scope) (p:Pos):VS (.ListComp ee gs sc p):=match gs with
 |[⟨t,it,fs,a⟩]=>if h:a=0 then some ⟨12,(ee,t,it,fs,sc),p,congrArg (fun a=>Expr.ListComp ee [⟨t,it,fs,a⟩] sc p) h⟩ else none
 |[]=>none
 |_::_::_=>none
set_option backward.match.sparseCases false in
noncomputable def vwE:(e:Expr)→VS e
 |.Name id p=>some ⟨0,(id,p),rfl⟩
 |.BinOp a o b p=>some ⟨1,(a,o,b),p,rfl⟩
 |.UnaryOp o a p=>some ⟨2,(o,a),p,rfl⟩
 |.BoolOp o l p=>vB o l p
 |.Compare a os bs p=>some ⟨4,(a,os,bs),p,rfl⟩
 |.IfExp q a b p=>some ⟨5,(q,a,b),p,rfl⟩
 |.Tuple es k p=>some ⟨6,(es,k,p),rfl⟩
 |.List es p=>some ⟨7,es,p,rfl⟩
 |.Subscript a b p=>some ⟨8,(a,b),p,rfl⟩
 |.Slice a b s p=>vSl a b s p
 |.Call f es ks p=>vCl f es ks p
 |.Attribute o n p=>some ⟨11,(o,n,p),rfl⟩
 |.ListComp ee gs sc p=>vLc ee gs sc p
 |.Constant k n p=>some ⟨13,(k,n,p),rfl⟩
 |.Dict ks vs p=>some ⟨14,(ks,vs),p,rfl⟩
 |_=>none
noncomputable def vw (k:Nat) (e:Expr):Option (VT k):=(Li (vwE e) k).map (·.1)
theorem fi {k:Nat} {e:Expr} {x:VT k} (h:vw k e=some x):VOf k x e:=eU (P:=fun x=>VOf k x e) h
noncomputable def nv (e:Expr):Option (PySem.Str×Pos):=vw 0 e
theorem iX {x} (h:nv e=some x):e= .Name x.1 x.2:=fi h
noncomputable def ii (e:Expr):Option PySem.Str:=(nv e).map (·.1)
theorem iQ {α β:Type} {o:Option α} {f:α→β} {b:β} {G:Prop} (h:o.map f=some b) (k:∀a,o=some a→f a=b→G):G:=by
 induction o with
 |none=>exact noS h
 |some a=>exact k a rfl (c7 h)
theorem dM {e:Expr} {x} (h:ii e=some x):∃p,e= .Name x p:=iQ h fun y h e1=>⟨y.2,e1▸iX h⟩
noncomputable def Lc (e:Expr):Option (Expr×Operator×Expr):=vw 1 e
theorem EJ {x} (h:Lc e=some x):∃p,e= .BinOp x.1 x.2.1 x.2.2 p:=fi h
noncomputable def vUn (e:Expr):Option (UnaryOp×Expr):=vw 2 e
theorem Ax {x} (h:vUn e=some x):∃p,e= .UnaryOp x.1 x.2 p:=fi h
noncomputable def pL (e:Expr):Option (BoolOp×Expr×Expr):=vw 3 e
theorem BN {x} (h:pL e=some x):∃b r p,e= .BoolOp x.1 (x.2.1::b::r) p∧x.2.2=wY x.1 b r p:=fi h
noncomputable def xV (e:Expr):Option (Expr×List CmpOp×List Expr):=vw 4 e
theorem rf {x} (h:xV e=some x):∃p,e= .Compare x.1 x.2.1 x.2.2 p:=fi h
noncomputable def vIf (e:Expr):Option (Expr×Expr×Expr):=vw 5 e
theorem IQ {x} (h:vIf e=some x):∃p,e= .IfExp x.1 x.2.1 x.2.2 p:=fi h
noncomputable def zS (e:Expr):Option (List Expr×Nat×Pos):=vw 6 e
theorem td {x} (h:zS e=some x):e= .Tuple x.1 x.2.1 x.2.2:=fi h
noncomputable def Lb (e:Expr):Option (List Expr):=(zS e).map (·.1)
theorem EH {e:Expr} {x} (h:Lb e=some x):∃n p,e= .Tuple x n p:=iQ h fun y h e1=>⟨y.2.1,y.2.2,e1▸td h⟩
noncomputable def Hj (e:Expr):Option (List Expr):=vw 7 e
theorem BK {x} (h:Hj e=some x):∃p,e= .List x p:=fi h
noncomputable def DY (e:Expr):Option (Expr×Expr):=vw 8 e
theorem rd {x} (h:DY e=some x):∃p,e= .Subscript x.1 x.2 p:=fi h
noncomputable def Az (e:Expr):Option (Option Expr×Option Expr):=vw 9 e
theorem yi {x} (h:Az e=some x):∃p,e= .Slice x.1 x.2 none p:=fi h
noncomputable def zU (e:Expr):Option (Expr×List Expr×Pos):=vw 10 e
theorem tf {x} (h:zU e=some x):e= .Call x.1 x.2.1 [] x.2.2:=fi h
noncomputable def qD (e:Expr):Option (Expr×PySem.Str×Pos):=vw 11 e
theorem lu {x} (h:qD e=some x):e= .Attribute x.1 x.2.1 x.2.2:=fi h
noncomputable def mH (e:Expr):Option (Const×Nat×Pos):=vw 13 e
theorem jE {x} (h:mH e=some x):e= .Constant x.1 x.2.1 x.2.2:=fi h
theorem bX {α β:Type} {o:Option α} {f:α→Option β} {b:β} {G:Prop} (h:o.bind f=some b) (k:∀a,o=some a→f a=some b→G):G:=by
 induction o with
 |none=>exact noS h
 |some a=>exact k a rfl h
noncomputable def cn (e:Expr):Option (PySem.Str×List Expr):=(zU e).bind fun c=>(ii c.1).map fun n=>(n,c.2.1)
theorem cB {e:Expr} {x} (h:cn e=some x):∃np p,e= .Call (.Name x.1 np) x.2 [] p:=
 bX h fun c h1 h=>iQ h fun n h3 e1=>Exists.elim (dM h3) fun np h4=>⟨np,c.2.2,by rw[tf h1,h4,←e1]⟩
noncomputable def dY (e:Expr):Option (Expr×PySem.Str×List Expr):=(zU e).bind fun c=>(qD c.1).bind fun a=>ifO ((bg a.1&&Nat.beq a.2.2.endLine c.2.2.line&&bo c.2.1)=true) (a.1,a.2.1,c.2.1)
theorem lr {e:Expr} {x} (h:dY e=some x):∃ap p,e= .Call (.Attribute x.1 x.2.1 ap) x.2.2 [] p∧bg x.1=true∧(ap.endLine==p.line)=true∧bo x.2.2=true:=
 bX h fun c h1 h=>bX h fun a h3 h=>by
  refine am (jZ h) fun q z1_=>?_;subst z1_;have q7:=d8.mp q;exact⟨a.2.2,c.2.2,by rw[tf h1,lu h3],(d8.mp q7.1).1,A5.mpr (o8 (d8.mp q7.1).2),q7.2⟩
noncomputable def LS {α:Type}:(l:List α)→Option {x//l=[x]}|[]=>none|[a]=>some ⟨a,rfl⟩|_::_::_=>none
noncomputable def gi {α:Type} (l:List α):Option α:=(LS l).map (·.1)
theorem eS {α:Type} {l:List α} {x} (h:gi l=some x):l=[x]:=eU (P:=fun x=>l=[x]) h
noncomputable def LR {α:Type}:(l:List α)→Option {x:α×α//l=[x.1,x.2]}|[]=>none|[_]=>none|[a,b]=>some ⟨(a,b),rfl⟩|_::_::_::_=>none
noncomputable def mV {α:Type} (l:List α):Option (α×α):=(LR l).map (·.1)
theorem jT {α:Type} {l:List α} {x} (h:mV l=some x):l=[x.1,x.2]:=eU (P:=fun x:α×α=>l=[x.1,x.2]) h
noncomputable def IS {α:Type}:(l:List α)→Option {x:α×List α//l=x.1::x.2}|[]=>none|a::l=>some ⟨(a,l),rfl⟩
noncomputable def sS {α:Type} (l:List α):Option (α×List α):=(IS l).map (·.1)
theorem km {α:Type} {l:List α} {x} (h:sS l=some x):l=x.1::x.2:=eU (P:=fun x:α×List α=>l=x.1::x.2) h
noncomputable def zT (e:Expr):Option (Expr×PySem.Str×Expr×List Expr×Scope):=(vw 12 e).bind fun c=>(ii c.2.1).map fun x=>(c.1,x,c.2.2)
theorem te {e:Expr} {x} (h:zT e=some x):∃px p,e= .ListComp x.1 [⟨.Name x.2.1 px,x.2.2.1,x.2.2.2.1,0⟩] x.2.2.2.2 p:=
 bX h fun c h1 h=>iQ h fun n h3 e1=>Exists.elim (dM h3) fun px h4=>Exists.elim (fi h1) fun p h5=>⟨px,p,by rw[h5,h4,←e1]⟩
noncomputable def KX:(k:Const)→Option {s//k= .str s}|.str s=>some ⟨s,rfl⟩|_=>none
noncomputable def Ia (k:Const):Option PySem.Str:=(KX k).map (·.1)
theorem DV {k:Const} {s} (h:Ia k=some s):k= .str s:=eU (P:=fun s=>k= .str s) h
noncomputable def KY:(k:Const)→Option {s//k= .int s}|.int s=>some ⟨s,rfl⟩|_=>none
noncomputable def Ib (k:Const):Option Int:=(KY k).map (·.1)
theorem DW {k:Const} {s} (h:Ib k=some s):k= .int s:=eU (P:=fun s=>k= .int s) h
noncomputable def Iu:List (Option Expr)→List Expr→Option DkL
 |[],vs=>ifO (vs.isEmpty=true) []
 |k::ks,vs=>(sS vs).bind fun v=>k.bind fun k=>(mH k).bind fun a=>(Ia a.1).bind fun s=>(mH v.1).bind fun b=>(Ib b.1).bind fun i=>(Iu ks v.2).map (((s,a.2),(i,b.2)):: ·)
theorem mT:∀{ks:List (Option Expr)} {vs:List Expr} {dk:DkL},Iu ks vs=some dk→ks=qY dk∧vs=qX dk
 |[],vs,dk,h=>by
  refine am (jZ h) fun a z1_=>?_;subst z1_;exact⟨rfl,t6.mp a⟩
 |k::ks,vs,dk,h=>
  bX h fun v h1 h=>bX h fun k' e0 h=>bX h fun a h2 h=>bX h fun s h3 h=>bX h fun b h4 h=>bX h fun i h5 h=>iQ h fun d h6 e=>by
   exact(e).symm▸(⟨by rw[e0,jE h2,DV h3,(mT h6).1];rfl,by rw[km h1,jE h4,DW h5,(mT h6).2];rfl⟩)
noncomputable def Hl (e:Expr):Option DkL:=(vw 14 e).bind fun x=>Iu x.1 x.2
theorem BM {e:Expr} {x} (h:Hl e=some x):∃p,e= .Dict (qY x) (qX x) p:=
 bX h fun y h1 h=>Exists.elim (fi h1) fun p h2=>by
  exact⟨p,by rw[h2,(mT h).1,(mT h).2]⟩
abbrev WT:Nat→Type
 |0=>Expr×Expr
 |1=>Expr
 |2=>Expr×List Stmt×List Stmt
 |3=>Expr×List Stmt
 |4=>Expr×Expr×List Stmt
 |5=>Expr
 |6=>Expr
 |7=>List Stmt×ExceptHandler
 |_=>Unit
def WOf:(k:Nat)→WT k→Stmt→Prop
 |0,x,st=>∃p,st= .Assign [x.1] x.2 p
 |1,x,st=>∃p,st= .Expr x p
 |2,x,st=>∃p,st= .If x.1 x.2.1 x.2.2 p
 |3,x,st=>∃p,st= .While x.1 x.2 [] p
 |4,x,st=>∃p,st= .For x.1 x.2.1 x.2.2 [] p
 |5,x,st=>∃p,st= .Return (some x) p
 |6,x,st=>∃p,st= .Raise (some x) none p
 |7,x,st=>∃p,st= .Try x.1 [x.2] [] [] p
 |8,_,st=>∃p,st= .Continue p
 |_+9,_,st=>∃p,st= .Break p
abbrev WS (st:Stmt):=Option (Σ k,{x:WT k//WOf k x st})
noncomputable def wAs (l:List Expr) (v:Expr) (p:Pos):WS (.Assign l v p):=match l with|[t]=>some ⟨0,(t,v),p,rfl⟩|[]=>none|_::_::_=>none
noncomputable def wWh (q:Expr) (a b:List Stmt) (p:Pos):WS (.While q a b p):=match b with|[]=>some ⟨3,(q,a),p,rfl⟩|_::_=>none
noncomputable def wFo (t i:Expr) (a b:List Stmt) (p:Pos):WS (.For t i a b p):=match b with|[]=>some ⟨4,(t,i,a),p,rfl⟩|_::_=>none
noncomputable def wRe (v:Option Expr) (p:Pos):WS (.Return v p):=match v with|some v=>some ⟨5,v,p,rfl⟩|none=>none
noncomputable def wRa (v c:Option Expr) (p:Pos):WS (.Raise v c p):=match v,c with|some v,none=>some ⟨6,v,p,rfl⟩|some _,some _=>none|none,_=>none
noncomputable def wTr (b:List Stmt) (hs:List ExceptHandler) (e f:List Stmt) (p:Pos):WS (.Try b hs e f p):=match hs,e,f with|[h],[],[]=>some ⟨7,(b,h),p,rfl⟩|_,_,_=>none
set_option backward.match.sparseCases false in
noncomputable def LP:(st:Stmt)→WS st
 |.Assign l v p=>wAs l v p
 |.Expr v p=>some ⟨1,v,p,rfl⟩
 |.If q a b p=>some ⟨2,(q,a,b),p,rfl⟩
 |.While q a b p=>wWh q a b p
 |.For t i a b p=>wFo t i a b p
 |.Return v p=>wRe v p
 |.Raise v c p=>wRa v c p
 |.Try b hs e f p=>wTr b hs e f p
 |.Continue p=>some ⟨8,(),p,rfl⟩
 |.Break p=>some ⟨9,(),p,rfl⟩
 |_=>none
noncomputable def sw (k:Nat) (st:Stmt):Option (WT k):=(Li (LP st) k).map (·.1)
theorem gY {k:Nat} {st:Stmt} {x:WT k} (h:sw k st=some x):WOf k x st:=eU (P:=fun x=>WOf k x st) h
noncomputable def Ly:(x:X)→Option (PLift (x= .absent))|.absent=>some ⟨rfl⟩|_=>none
noncomputable def fF (x:X):Bool:=(Ly x).isSome
theorem iy {x:X} (h:fF x=true):x= .absent:=((Ly x).get h).down
noncomputable def Cfg.local (Γ:Cfg) (i:Nat) (id:PySem.Str):Bool:=Γ.has i id (fun _=>true)&&(!eqS id "__debug__"&& !eqS id "__classdict__")
set_option backward.match.sparseCases false in
mutual
noncomputable def aQ:X→Cfg→Expr→Bool
 |.var i,Γ,e=>(ii e).any fun id=>Γ.local i id
 |.lit d,Γ,e=>(mH e).any fun k=>HI d k.1
 |.gstr g,Γ,e=>(ii e).any fun id=>Γ.gl id&&Γ.gst.any fun y=>eqS y.1 id&&Nat.beq y.2 g
 |.attr o f,Γ,e=>(qD e).any fun p=>Nat.ble (f+1) 9&&(eqS p.2.1 (aq f)&&(bg p.1&&aQ o Γ p.1))
 |.bin op a b,Γ,e=>(Lc e).any fun p=>decide (p.2.1=opB op)&&(aQ a Γ p.1&&aQ b Γ p.2.2)
 |.neg a,Γ,e=>(vUn e).any fun p=>decide (p.1= .USub)&&aQ a Γ p.2
 |.and a b,Γ,e=>(pL e).any fun p=>decide (p.1= .And)&&(aQ a Γ p.2.1&&aQ b Γ p.2.2)
 |.or a b,Γ,e=>(pL e).any fun p=>decide (p.1= .Or)&&(aQ a Γ p.2.1&&aQ b Γ p.2.2)
 |.cmp op a b,Γ,e=>(xV e).any fun p=>(gi p.2.1).any fun o=>(gi p.2.2).any fun eb=>decide (o=opC op)&&(fq eb&&(aQ a Γ p.1&&aQ b Γ eb))
 |.cmp2 op op' a b d,Γ,e=>(xV e).any fun p=>(mV p.2.1).any fun o=>(mV p.2.2).any fun eb=>(decide (o.1=opC op)&&decide (o.2=opC op'))&&(fq eb.2&&(aQ a Γ p.1&&(aQ b Γ eb.1&&aQ d Γ eb.2)))
 |.ife q a b,Γ,e=>(vIf e).any fun p=>mD q Γ p.1&&(aQ a Γ p.2.1&&aQ b Γ p.2.2)
 |.tup xs,Γ,e=>(Lb e).any fun es=>jr xs Γ es
 |.list _ xs,Γ,e=>(Hj e).any fun es=>jr xs Γ es
 |.sub a b,Γ,e=>(DY e).any fun p=>aQ a Γ p.1&&aQ b Γ p.2
 |.slice a lo hi,Γ,e=>(DY e).any fun p=>(Az p.2).any fun q=>aQ a Γ p.1&&((match q.1 with|some e=>aQ lo Γ e|none=>fF lo)&&(match q.2 with|some e=>aQ hi Γ e|none=>fF hi))
 |.call g xs,Γ,e=>(cn e).any fun p=>Γ.hd&&(bo p.2&&(Γ.gl p.1&&(pS Γ.fns p.1 g Γ.lev&&jr xs Γ p.2)))
 |.mcall g o xs,Γ,e=>(dY e).any fun p=>Γ.hd&&(Nat.ble (p.2.2.length+1) 30&&((flds.all fun f=> !eqS f p.2.1)&&(pS Γ.mts p.2.1 g Γ.lev&&(aQ o Γ p.1&&jr xs Γ p.2.2))))
 |.new C _ xs,Γ,e=>(cn e).any fun p=>Γ.hd&&(bo p.2&&(Γ.gl p.1&&(Γ.news.any (fun y=>eqS y.1 p.1&&(Nat.beq y.2.1 C&&Nat.ble (y.2.2+1) Γ.lev))&&jr xs Γ p.2)))
 |.blt k a,Γ,e=>(cn e).any fun p=>(gi p.2).any fun ea=>Γ.hd&&(Nat.ble (k+1) 5&&(eqS p.1 (mX k)&&(Γ.gl p.1&&(az ea&&aQ a Γ ea))))
 |.barr0,Γ,e=>(cn e).any fun p=>p.2.isEmpty&&(eqS p.1 "bytearray"&&Γ.gl p.1)
 |.append o a,Γ,e=>(dY e).any fun p=>(gi p.2.2).any fun ea=>eqS p.2.1 "append"&&(aQ o Γ p.1&&aQ a Γ ea)
 |.extend o a,Γ,e=>(dY e).any fun p=>(gi p.2.2).any fun ea=>(Γ.hd&&eqS p.2.1 "extend")&&(aQ o Γ p.1&&aQ a Γ ea)
 |.pop o,Γ,e=>(dY e).any fun p=>p.2.2.isEmpty&&(eqS p.2.1 "pop"&&aQ o Γ p.1)
 |.frz a,Γ,e=>aQ a Γ e
 |.lower o,Γ,e=>(dY e).any fun p=>p.2.2.isEmpty&&(eqS p.2.1 "lower"&&aQ o Γ p.1)
 |.split o a,Γ,e=>(dY e).any fun p=>(gi p.2.2).any fun ea=>eqS p.2.1 "split"&&(aQ o Γ p.1&&aQ a Γ ea)
 |.index o a,Γ,e=>(dY e).any fun p=>(gi p.2.2).any fun ea=>eqS p.2.1 "index"&&(aQ o Γ p.1&&aQ a Γ ea)
 |.find o a b,Γ,e=>(dY e).any fun p=>(mV p.2.2).any fun q=>eqS p.2.1 "find"&&(aQ o Γ p.1&&(aQ a Γ q.1&&aQ b Γ q.2))
 |.esc gl a,Γ,e=>(DY e).any fun p=>aQ a Γ p.2&&bif gl then((ii p.1).any fun id=>eqS id "ESCAPES"&&Γ.gl id) else(Hl p.1).any fun dk=>decide (dk.map (fun x=>some (x.1.1.cps.toList,x.2.1))=cW.map pIs)
 |.isin i a,Γ,e=>(cn e).any fun p=>(mV p.2).any fun es=>(ii es.2).any fun id=>(eqS p.1 "isinstance"&&Γ.gl p.1)&&(Γ.gl id&&(Γ.news.any (fun y=>eqS y.1 id&&Nat.beq y.2.1 i)&&(az es.1&&aQ a Γ es.1)))
 |.comp _ elt cond i kind a f,Γ,e=>(zT e).any fun p=>(Γ.hd&&Γ.comp p.2.2.2.2 i p.2.1)&&(((match kind with
     |0=>(cn p.2.2.1).any fun q=>(gi q.2).any fun ea=>fF f&&((eqS q.1 "range"&&Γ.gl q.1)&&(az ea&&aQ a Γ ea))
     |1=>(cn p.2.2.1).any fun q=>(mV q.2).any fun es=>(eqS q.1 "range"&&Γ.gl q.1)&&((az es.1&&az es.2)&&(aQ a Γ es.1&&aQ f Γ es.2))
     |2=>fF f&&(iP p.2.2.1&&aQ a Γ p.2.2.1)
     |3=>(cn p.2.2.1).any fun q=>(gi q.2).any fun ea=>fF f&&((eqS q.1 "reversed"&&Γ.gl q.1)&&(az ea&&aQ a Γ ea))
     |_=>false))&&((bif p.2.2.2.1.isEmpty then fF cond else(gi p.2.2.2.1).any fun q=>mD cond (Γ.inner p.2.2.2.2 i p.2.1) q)&&aQ elt (Γ.inner p.2.2.2.2 i p.2.1) p.1))
 |_,_,_=>false
noncomputable def mD:X→Cfg→Expr→Bool
 |.not a,Γ,e=>(vUn e).any fun p=>decide (p.1= .Not)&&mD a Γ p.2
 |.and a b,Γ,e=>(pL e).any fun p=>decide (p.1= .And)&&(mD a Γ p.2.1&&mD b Γ p.2.2)
 |.or a b,Γ,e=>(pL e).any fun p=>decide (p.1= .Or)&&(mD a Γ p.2.1&&mD b Γ p.2.2)
 |.cmp op a b,Γ,e=>(xV e).any fun p=>(gi p.2.1).any fun o=>(gi p.2.2).any fun eb=>decide (o=opC op)&&(fq eb&&(aQ a Γ p.1&&aQ b Γ eb))
 |.cmp2 op op' a b d,Γ,e=>(xV e).any fun p=>(mV p.2.1).any fun o=>(mV p.2.2).any fun eb=>(decide (o.1=opC op)&&decide (o.2=opC op'))&&(fq eb.2&&(aQ a Γ p.1&&(aQ b Γ eb.1&&aQ d Γ eb.2)))
 |.isin i a,Γ,e=>(cn e).any fun p=>(mV p.2).any fun es=>(ii es.2).any fun id=>(eqS p.1 "isinstance"&&Γ.gl p.1)&&(Γ.gl id&&(Γ.news.any (fun y=>eqS y.1 id&&Nat.beq y.2.1 i)&&(az es.1&&aQ a Γ es.1)))
 |.inEsc a,Γ,e=>(xV e).any fun p=>(gi p.2.1).any fun o=>(gi p.2.2).any fun eb=>(ii eb).any fun id=>decide (o= .In)&&(eqS id "ESCAPES"&&(Γ.gl id&&aQ a Γ p.1))
 |.var i,Γ,e=>(ii e).any fun id=>Γ.local i id
 |.call g xs,Γ,e=>(cn e).any fun p=>Γ.hd&&(bo p.2&&(Γ.gl p.1&&(pS Γ.fns p.1 g Γ.lev&&jr xs Γ p.2)))
 |.mcall g o xs,Γ,e=>(dY e).any fun p=>Γ.hd&&(Nat.ble (p.2.2.length+1) 30&&((flds.all fun f=> !eqS f p.2.1)&&(pS Γ.mts p.2.1 g Γ.lev&&(aQ o Γ p.1&&jr xs Γ p.2.2))))
 |_,_,_=>false
noncomputable def jr:XL→Cfg→List Expr→Bool
 |.nil,Γ,es=>es.isEmpty
 |.cons a r,Γ,es=>(sS es).any fun p=>az p.1&&(aQ a Γ p.1&&jr r Γ p.2)
end
noncomputable def kH:List PySem.Str:=(["len","ord","chr","bytes","sorted","bytearray","range","reversed","isinstance"]:List String).map PySem.Str.ofString
structure Wd (B:Bs) (Sp:Nat→aP) (gv:Nat→List Nat) (Γ:Cfg):Prop where
 ks:Ks B
 kt:KT B
 ki:KI B
 kd:∃E,KD B E
 ke:∃W fI fW fdI fdW,KE B W fI fW fdI fdW
 blt:∀n∈kH,B.mg n=none
 fns:∀e∈Γ.fns,∃fa,B.mg e.1=some (.ref fa)∧keepIn B.K (.ref fa)=true∧eI B fa e.2.2 (Sp e.2.1)
 mts:∀e∈Γ.mts,∃fa,findIn B.K (.ref (B.ca (gm e.2.1))) e.1=some (some (.ref fa))∧typeIn B.K (.ref fa)=some (.type "function")∧keepIn B.K (.ref fa)=true∧eI B fa e.2.2 (Sp e.2.1)
 news:∀e∈Γ.news,e.2.1<3∧B.mg e.1=some (.ref (B.ca e.2.1))∧keepIn B.K (.ref (B.ca e.2.1))=true∧makesIn B.K (B.ca e.2.1)=true∧∃fa,findIn B.K (.ref (B.ca e.2.1)) "__init__"=some (some (.ref fa))∧typeIn B.K (.ref fa)=some (.type "function")∧eI B fa e.2.2 (Sp (lh e.2.1))
 gst:∀e∈Γ.gst,∃x t,B.mg e.1=some (.str x t)∧x.cps.toList=gv e.2∧(gv e.2).length≤ah
structure Fits (B:Bs) (c:FC) (Γ:Cfg):Prop where
 ok:c.Ok B
 hd:Γ.hd=true→c.hd=true
 vars:c.vars=Γ.vars
 glob:∀n,Γ.names.lookup n=some .globalImplicit→c.env.kindOf n=some .globalImplicit
 cell:Γ.cw=true→c.cw=true∧∀n,Γ.names.lookup n=some .cell→c.env.kindOf n=some .cell
 lev:Γ.lev≤c.lev
section
variable {Γ:Cfg}
theorem ax {α:Type} {o:Option α} {p:α→Bool} (h:o.any p=true):∃x,o=some x∧p x=true:=by
 cases o with
 |none=>cases h
 |some x=>exact⟨x,rfl,h⟩
theorem ao (h:(a&&b)=true):a=true∧b=true:=d8.mp h
theorem gn (h:(!a)=true):a=false:=by cases a<;>first|rfl|cases h
theorem vr (h:(!eqS a b)=true):(a==b)=false:=by
 have h:=gn h;exact j6.mpr fun z=>by rw[aO.mpr z] at h;exact nomatch h
theorem Fits.gl (Φ:Fits B c Γ) (h:Γ.gl n=true):c.env.kindOf n=some .globalImplicit∧(n==("__debug__":PySem.Str))=false:=by
 refine am (ao h) fun a b=>?_;exact⟨Φ.glob n (by rw[←bN];exact rA a),vr b⟩
theorem Cfg.has_mem (h:Γ.has i n p=true):∃cl,(i,n,cl)∈Γ.vars∧p cl=true:=by
 refine aj (z0.mp h) fun z0_ hm q=>?_;obtain⟨i',n',cl⟩:=z0_;refine am (ao q) fun a b=>?_;refine am (ao b) fun b d=>?_;have:=o8 a;have:=aO.mp b;dsimp only at*
 subst_vars
 exact⟨cl,hm,d⟩
theorem qm (h:pS t n g lev=true):∃l,(n,g,l)∈t∧l≤lev:=by
 refine aj (z0.mp h) fun z0_ hm q=>?_;obtain⟨n',g',l⟩:=z0_;refine am (ao q) fun a b=>?_;refine am (ao b) fun b d=>?_;have:=o8 b;have:=aO.mp a;dsimp only at*
 subst_vars
 exact⟨l,hm,m9 d⟩
theorem CC {t:List (PySem.Str×Nat×Nat)} {n:PySem.Str} {C:Nat} {p:Nat→Bool} (h:(t.any fun y=>eqS y.1 n&&(Nat.beq y.2.1 C&&p y.2.2))=true):∃l,(n,C,l)∈t∧p l=true:=by
 refine aj (z0.mp h) fun z0_ hm q=>?_;obtain⟨n',g',l⟩:=z0_;refine am (ao q) fun a b=>?_;refine am (ao b) fun b d=>?_;have:=o8 b;have:=aO.mp a;dsimp only at*
 subst_vars
 exact⟨l,hm,d⟩
theorem tL (Φ:Fits B c Γ) {i:Nat} {id:PySem.Str} (h:Γ.local i id=true) {pos:Pos}:EX B c Sp gv (.var i) (.Name id pos):=by
 refine av fun gP gO=>?_;refine am (ao h) fun a b=>?_;refine am (ao b) fun b d=>?_;refine aj (Γ.has_mem a) fun cl hm _=>?_;refine gO ?_;exact JQ Φ.ok (by rw[Φ.vars];exact hm) (vr b) (vr d)
theorem Wd.inner (W:Wd B Sp gv Γ) (scope:Scope) (i:Nat) (x:PySem.Str):Wd B Sp gv (Γ.inner scope i x):=⟨W.ks,W.kt,W.ki,W.kd,W.ke,W.blt,W.fns,W.mts,W.news,W.gst⟩
theorem dK (n:String) (h:n∈["len","ord","chr","bytes","sorted","bytearray","range","reversed","isinstance"]):PySem.Str.ofString n∈kH:=r6 h
theorem jf (h:qR k=true):k= .function:=c8 h
theorem Bn (Φ:Fits B c Γ) (h:Γ.comp scope i x=true):CompV c scope i x (Γ.fr scope):=by
 refine am (ao h) fun h1 h=>?_;refine am (ao h) fun h2 h=>?_;refine am (ao h) fun h3 h4=>?_;have h2:=j9.mp h2;refine⟨jf h1,fun y hy z=>?_,fun y hy z=>?_,by rw[←bN];exact gK h3,fun y hy z=>?_,fun y hy=>?_,fun y hy z=>?_⟩
 ·have:=(ao (h2 y hy)).1;rw[z] at this;exact noT this
 ·have:=(ao (ao (h2 y hy)).2).1;rw[z] at this;rw[←bN];exact gK this
 ·have:=(ao (ao (h2 y hy)).2).2;rw[z] at this;refine aj (z0.mp this) fun z0_ hm q=>?_;obtain⟨j,n,cl⟩:=z0_;refine am (ao q) fun a b=>?_;have:=aO.mp a;dsimp only at this b;subst this;subst b;exact⟨j,by rw[Φ.vars];exact hm⟩
 ·refine am (E8.mp hy) fun hm q=>?_;refine am (ao q) fun a b=>?_;exact⟨a,by rw[Φ.vars];exact hm,by rw[←bN];exact Ge b⟩
 ·have:=gn (j9.mp h4 y hy);subst z;rw[Nat.beq_refl] at this;cases this
theorem wk (Φ:Fits B c Γ) (hok:c'.Ok B) (hh:c'.hd=true) (hv:c'.vars=(i,x,false)::Γ.fr scope) (hl:c'.lev=c.lev) (he:∃cl C,c'.env=compEnvC scope cl C c.env):Fits B c' (Γ.inner scope i x):=by
 refine⟨hok,fun _=>hh,hv,fun n h=>?_,(nomatch ·),by rw[hl];exact Φ.lev⟩;refine cu he fun cl C e=>?_;refine er e (er lJ (er (show scope.names.lookup n=_ from h) ?_));rfl
end
abbrev OkX (B:Bs) (Sp:Nat→aP) (gv:Nat→List Nat) (x:X):Prop:=∀(Γ:Cfg) (c:FC) (e:Expr),Wd B Sp gv Γ→Fits B c Γ→aQ x Γ e=true→EX B c Sp gv x e
abbrev OkT (B:Bs) (Sp:Nat→aP) (gv:Nat→List Nat) (x:X):Prop:=∀(Γ:Cfg) (c:FC) (e:Expr),Wd B Sp gv Γ→Fits B c Γ→mD x Γ e=true→ET B c Sp gv x e
abbrev pB (B:Bs) (Sp:Nat→aP) (gv:Nat→List Nat) (x:XL):Prop:=∀(Γ:Cfg) (c:FC) (es:List Expr),Wd B Sp gv Γ→Fits B c Γ→jr x Γ es=true→EXs B c Sp gv x es
theorem xk (hx:pB B Sp gv xs) (W:Wd B Sp gv Γ) (Φ:Fits B c Γ) (h:((cn e).any fun p=>Γ.hd&&(bo p.2&&(Γ.gl p.1&&(pS Γ.fns p.1 g Γ.lev&&jr xs Γ p.2))))=true):EX B c Sp gv (.call g xs) e:=by
 refine av fun gP gO=>?_;replace h:=ax h;obtain⟨p,h1,h⟩:=h;refine cu (cB h1) fun np q z2_=>?_;subst z2_;refine am (ao h) fun k1 h=>?_;refine am (ao h) fun k2 h=>?_;refine am (ao h) fun k3 h=>?_;refine am (ao h) fun k4 h=>?_;refine aj (qm k4) fun l hm hl=>?_;refine eQ (W.fns _ hm) fun fa w1 w2 w3=>?_;refine gO ?_;exact Gx Φ.ok (Φ.hd k1) k2 (hx _ _ _ W Φ h) w1 (Φ.gl k3).1 (Φ.gl k3).2 w2 w3 (b9 hl Φ.lev)
theorem tF (ho:OkX B Sp gv o) (hx:pB B Sp gv xs) (W:Wd B Sp gv Γ) (Φ:Fits B c Γ) (h:aQ (.mcall g o xs) Γ e=true):EX B c Sp gv (.mcall g o xs) e:=by
 refine av fun gP gO=>?_;replace h:=ax h;obtain⟨p,h1,h⟩:=h;refine mW (lr h1) fun ap q z2_ k1 k2 k3=>?_;subst z2_;refine am (ao h) fun k4 h=>?_;refine am (ao h) fun k5 h=>?_;refine am (ao h) fun k6 h=>?_;refine am (ao h) fun k7 h=>?_;refine aj (qm k7) fun l hm hl=>?_;refine sO (W.mts _ hm) fun fa w1 w2 w3 w4=>?_;refine gO ?_;refine Dr Φ.ok (Φ.hd k4) W.ks k1 k3 (m9 k5) k2 (ho _ _ _ W Φ (ao h).1) (hx _ _ _ W Φ (ao h).2) w1 w2 (fun z=>?_) w3 w4 (b9 hl Φ.lev);have:=gn ((j9.mp k6) p.2.1 z);rw[aO.mpr rfl] at this;exact nomatch this
theorem Jr (hx:pB B Sp gv xs) (W:Wd B Sp gv Γ) (Φ:Fits B c Γ) (h:aQ (.new C fz xs) Γ e=true):EX B c Sp gv (.new C fz xs) e:=by
 refine av fun gP gO=>?_;replace h:=ax h;obtain⟨p,h1,h⟩:=h;refine cu (cB h1) fun np q z2_=>?_;subst z2_;refine am (ao h) fun k1 h=>?_;refine am (ao h) fun k2 h=>?_;refine am (ao h) fun k3 h=>?_;refine am (ao h) fun k4 h=>?_;refine aj (CC (p:=fun l=>Nat.ble (l+1) Γ.lev) k4) fun l hm hl=>?_;obtain⟨w0,w1,w2,w3,fa,w4,w5,w6⟩:=W.news _ hm;refine gO ?_;exact JU Φ.ok (Φ.hd k1) k2 (hx _ _ _ W Φ h) w0 w1 (Φ.gl k3).1 (Φ.gl k3).2 w2 w3 w4 w5 w6 (b9 (m9 hl) Φ.lev)
theorem AJ (ha:OkX B Sp gv a) (hb:OkX B Sp gv b) (W:Wd B Sp gv Γ) (Φ:Fits B c Γ) (h:aQ (.cmp op a b) Γ e=true):EX B c Sp gv (.cmp op a b) e∧ET B c Sp gv (.cmp op a b) e:=by
 refine av fun gP gO=>?_;replace h:=ax h;obtain⟨p,h1,h⟩:=h;replace h:=ax h;obtain⟨o,h2,h⟩:=h;replace h:=ax h;obtain⟨eb,h3,h⟩:=h;refine ar (rf h1) fun q z1_=>?_;subst z1_;refine am (ao h) fun k1 h=>?_;refine am (ao h) fun k2 h=>?_;refine am (ao h) fun k3 h=>?_;refine gO ?_;simp only[eS h2,eS h3,c8 k1];exact⟨Ka Φ.ok k2 (ha _ _ _ W Φ k3) (hb _ _ _ W Φ h),et_cmp Φ.ok k2 (ha _ _ _ W Φ k3) (hb _ _ _ W Φ h)⟩
theorem xj (ha:OkX B Sp gv a) (hb:OkX B Sp gv b) (hd:OkX B Sp gv d) (W:Wd B Sp gv Γ) (Φ:Fits B c Γ) (h:aQ (.cmp2 op op' a b d) Γ e=true):EX B c Sp gv (.cmp2 op op' a b d) e∧ET B c Sp gv (.cmp2 op op' a b d) e:=by
 refine av fun gP gO=>?_;replace h:=ax h;obtain⟨p,h1,h⟩:=h;replace h:=ax h;obtain⟨o,h2,h⟩:=h;replace h:=ax h;obtain⟨eb,h3,h⟩:=h;refine ar (rf h1) fun q z1_=>?_;subst z1_;refine am (ao h) fun k1 h=>?_;refine am (ao k1) fun k0 k1=>?_;refine am (ao h) fun k2 h=>?_;refine am (ao h) fun k3 h=>?_;refine am (ao h) fun k4 h=>?_;refine gO ?_;simp only[jT h2,jT h3,c8 k0,c8 k1];exact⟨Gw Φ.ok k2 (ha _ _ _ W Φ k3) (hb _ _ _ W Φ k4) (hd _ _ _ W Φ h),et_cmp2 Φ.ok k2 (ha _ _ _ W Φ k3) (hb _ _ _ W Φ k4) (hd _ _ _ W Φ h)⟩
theorem vf (ha:OkX B Sp gv a) (hf:OkX B Sp gv f) (W:Wd B Sp gv Γ) (Φ:Fits B c Γ) (hh:c.hd=true) (h:(match kind with
     |0=>(cn it).any fun q=>(gi q.2).any fun ea=>fF f&&((eqS q.1 "range"&&Γ.gl q.1)&&(az ea&&aQ a Γ ea))
     |1=>(cn it).any fun q=>(mV q.2).any fun es=>(eqS q.1 "range"&&Γ.gl q.1)&&((az es.1&&az es.2)&&(aQ a Γ es.1&&aQ f Γ es.2))
     |2=>fF f&&(iP it&&aQ a Γ it)
     |3=>(cn it).any fun q=>(gi q.2).any fun ea=>fF f&&((eqS q.1 "reversed"&&Γ.gl q.1)&&(az ea&&aQ a Γ ea))
     |_=>false)=true):jR B c Sp gv kind a f it:=by
 rcases kind with _|_|_|_|kind
 ·replace h:=ax h;obtain⟨p,h1,h⟩:=h;replace h:=ax h;obtain⟨ea,h2,h⟩:=h;refine cu (cB h1) fun np q z2_=>?_;subst z2_;refine am (ao h) fun k1 h=>?_;refine am (ao h) fun k2 h=>?_;refine am (ao k2) fun k2 k3=>?_;refine am (ao h) fun k4 h=>?_;have e:=aO.mp k2;refine er (iy k1) (er (eS h2) (er e ?_));exact yr Φ.ok hh k4 (ha _ _ _ W Φ h) (W.blt _ (dK "range" (by decide))) (e▸(Φ.gl k3).1)
 ·replace h:=ax h;obtain⟨p,h1,h⟩:=h;replace h:=ax h;obtain⟨es,h2,h⟩:=h;refine cu (cB h1) fun np q z2_=>?_;subst z2_;refine am (ao h) fun k2 h=>?_;refine am (ao k2) fun k2 k3=>?_;refine am (ao h) fun k4 h=>?_;refine am (ao k4) fun k4 k5=>?_;have q7:=ao h;refine er (jT h2) (er ((aO.mp k2)) ?_);exact vS Φ.ok hh k4 k5 (ha _ _ _ W Φ q7.1) (hf _ _ _ W Φ q7.2) (W.blt _ (dK "range" (by decide))) ((aO.mp k2)▸(Φ.gl k3).1)
 ·refine am (ao h) fun k1 h=>?_;exact(iy k1)▸(EZ Φ.ok hh (ao h).1 (ha _ _ _ W Φ (ao h).2))
 ·replace h:=ax h;obtain⟨p,h1,h⟩:=h;replace h:=ax h;obtain⟨ea,h2,h⟩:=h;refine cu (cB h1) fun np q z2_=>?_;subst z2_;refine am (ao h) fun k1 h=>?_;refine am (ao h) fun k2 h=>?_;refine am (ao k2) fun k2 k3=>?_;refine am (ao h) fun k4 h=>?_;have e:=aO.mp k2;refine er (iy k1) (er (eS h2) (er e ?_));exact Fb Φ.ok hh k4 (ha _ _ _ W Φ h) (W.blt _ (dK "reversed" (by decide))) (e▸(Φ.gl k3).1)
 ·exact noT h
theorem AI (hx:OkX B Sp gv x) (W:Wd B Sp gv Γ) (Φ:Fits B c Γ) (h:(match e with|some e=>aQ x Γ e|none=>fF x)=true):EO B c Sp gv x e:=by
 induction e with
 |none=>exact iy h
 |some e=>exact hx _ _ _ W Φ h
theorem xi {mu:Bool} {elt cond a f:X} {i kind:Nat} (he:OkX B Sp gv elt) (hq:OkT B Sp gv cond) (ha:OkX B Sp gv a) (hf:OkX B Sp gv f) {Γ:Cfg} {c:FC} {e:Expr} (W:Wd B Sp gv Γ) (Φ:Fits B c Γ) (h:aQ (.comp mu elt cond i kind a f) Γ e=true):
  EX B c Sp gv (.comp mu elt cond i kind a f) e∧∀{j:Nat} {y:PySem.Str} {py spos:Pos},(j,y,false)∈c.vars→swapsWith e (some (.Name y py)) spos.line c.env=pure true→ES1 B c Sp gv (.assign j (.comp mu elt cond i kind a f)) (.Assign [.Name y py] e spos):=by
 refine av fun gP gO=>?_;replace h:=ax h;obtain⟨p,h1,h⟩:=h;refine cu (te h1) fun px q z2_=>?_;subst z2_;refine am (ao h) fun k1 h=>?_;refine am (ao k1) fun k1 k2=>?_;refine am (ao h) fun k3 h=>?_;refine am (ao h) fun k4 h=>?_;have I:∀c':FC,c'.Ok B→c'.hd=true→c'.vars=(i,p.2.1,false)::Γ.fr p.2.2.2.2→c'.lev=c.lev→(∃cl C,c'.env=compEnvC p.2.2.2.2 cl C c.env)→lm B c' Sp gv cond p.2.2.2.1∧EX B c' Sp gv elt p.1:=fun c' o hh hv hl hE=>by
  have OC:=wk Φ o hh hv hl hE;refine⟨?_,he _ _ _ (W.inner _ _ _) OC h⟩;cases q:p.2.2.2.1.isEmpty with
  |true=>
   rw[q] at k4;exact .inl ⟨iy k4,t6.mp q⟩
  |false=>
   rw[q] at k4;replace k4:=ax k4;obtain⟨t,h2,h3⟩:=k4;exact .inr ⟨t,eS h2,hq _ _ _ (W.inner _ _ _) OC h3⟩
 refine gO ?_;exact⟨Gv Φ.ok (Φ.hd k1) (Bn Φ k2) (vf ha hf W Φ (Φ.hd k1) k3) I,fun hy hsw=>yC Φ.ok (Φ.hd k1) hy (Bn Φ k2) (vf ha hf W Φ (Φ.hd k1) k3) hsw I⟩
theorem Jt (ha:OkX B Sp gv a) (W:Wd B Sp gv Γ) (Φ:Fits B c Γ) (h:aQ (.esc gl a) Γ e=true):EX B c Sp gv (.esc gl a) e:=by
 replace h:=ax h;obtain⟨p,h1,h⟩:=h;refine ar (rd h1) fun q z1_=>?_;subst z1_;obtain⟨k1,h⟩:=ao h
 induction gl with
 |true=>
  replace h:=ax h;obtain⟨id,h2,h⟩:=h;have q7:=ao h;refine ar (dM h2) fun np e=>?_;refine ar W.kd fun E K=>?_;simp only[e,(aO.mp q7.1)];exact JZ Φ.ok K (ha _ _ _ W Φ k1) ((aO.mp q7.1)▸(Φ.gl q7.2).1)
 |false=>
  replace h:=ax h;obtain⟨dk,h2,h⟩:=h;refine ar (BM h2) fun dp e=>?_;exact e▸(Gu Φ.ok (c8 h) (ha _ _ _ W Φ k1))
theorem xh (ha:OkX B Sp gv a) (W:Wd B Sp gv Γ) (Φ:Fits B c Γ) (h:aQ (.isin i a) Γ e=true):EX B c Sp gv (.isin i a) e∧ET B c Sp gv (.isin i a) e:=by
 refine av fun gP gO=>?_;replace h:=ax h;obtain⟨p,h1,h⟩:=h;replace h:=ax h;obtain⟨es,h2,h⟩:=h;replace h:=ax h;obtain⟨id,h3,h⟩:=h;refine cu (cB h1) fun np q e1=>?_;refine ar (dM h3) fun np2 e2=>?_;refine am (ao h) fun k1 h=>?_;refine am (ao k1) fun k1 k2=>?_;refine am (ao h) fun k3 h=>?_;refine am (ao h) fun k4 h=>?_;refine am (ao h) fun k5 h=>?_;have e3:=aO.mp k1;refine aj (z0.mp k4) fun z0_ hm q=>?_;obtain⟨n,C,l⟩:=z0_;refine am (ao q) fun q1 q2=>?_;have e4:=aO.mp q1;have e5:=o8 q2;dsimp only at e4 e5;rw[e4,e5] at hm;refine cQ (W.news _ hm) fun w0 w1 _=>?_;refine gO ?_;simp only[e1,jT h2,e2,e3];exact⟨xD Φ.ok W.ks W.ki w0 (ha _ _ _ W Φ h) k5 (W.blt _ (dK "isinstance" (by decide))) (e3▸(Φ.gl k2).1) w1 (Φ.gl k3).1 (Φ.gl k3).2,GF Φ.ok W.ks W.ki w0 (ha _ _ _ W Φ h) k5 (W.blt _ (dK "isinstance" (by decide))) (e3▸(Φ.gl k2).1) w1 (Φ.gl k3).1 (Φ.gl k3).2⟩
theorem Cv (ha:OkX B Sp gv a) (W:Wd B Sp gv Γ) (Φ:Fits B c Γ) (h:mD (.inEsc a) Γ e=true):ET B c Sp gv (.inEsc a) e:=by
 refine av fun gP gO=>?_;replace h:=ax h;obtain⟨p,h1,h⟩:=h;replace h:=ax h;obtain⟨o,h2,h⟩:=h;replace h:=ax h;obtain⟨eb,h3,h⟩:=h;replace h:=ax h;obtain⟨id,h4,h⟩:=h;refine ar (rf h1) fun q e1=>?_;refine ar (dM h4) fun np e2=>?_;refine am (ao h) fun k1 h=>?_;refine am (ao h) fun k2 h=>?_;refine am (ao h) fun k3 h=>?_;refine ar W.kd fun E K=>?_;refine gO ?_;simp only[e1,eS h2,eS h3,e2,(aO.mp k2),c8 k1];exact Dx Φ.ok K (ha _ _ _ W Φ h) ((aO.mp k2)▸(Φ.gl k3).1)
theorem Ju (ha:OkX B Sp gv a) (W:Wd B Sp gv Γ) (Φ:Fits B c Γ) (h:aQ (.blt k a) Γ e=true):EX B c Sp gv (.blt k a) e:=by
 replace h:=ax h;obtain⟨p,h1,h⟩:=h;replace h:=ax h;obtain⟨ea,h2,h⟩:=h;refine cu (cB h1) fun np q e1=>?_;refine am (ao h) fun k1 h=>?_;refine am (ao h) fun k2 h=>?_;refine am (ao h) fun k3 h=>?_;refine am (ao h) fun k4 h=>?_;refine am (ao h) fun k5 h=>?_;refine er e1 (er (eS h2) (er ((aO.mp k3)) ?_));refine Kd Φ.ok (Φ.hd k1) (m9 k2) (ha _ _ _ W Φ h) k5 (W.blt _ ?_) ((aO.mp k3)▸(Φ.gl k4).1);exact lt5 (P:=fun k=>mX k∈kH) (dK "len" (by decide)) (dK "ord" (by decide)) (dK "chr" (by decide)) (dK "bytes" (by decide)) (dK "sorted" (by decide)) (m9 k2)
theorem FI (W:Wd B Sp gv Γ) (Φ:Fits B c Γ) (h:aQ (.gstr g) Γ e=true):EX B c Sp gv (.gstr g) e:=by
 replace h:=ax h;obtain⟨id,h1,h⟩:=h;refine ar (dM h1) fun np e1=>?_;refine am (ao h) fun k1 h=>?_;refine aj (z0.mp h) fun z0_ hm q=>?_;obtain⟨n,g'⟩:=z0_;have q7:=ao q;refine aZ (W.gst _ hm) fun x t w1 w2 w3=>?_;simp only[e1];rw[(aO.mp q7.1)] at w1;rw[(o8 q7.2)] at w2 w3;exact Gr Φ.ok w1 w2 w3 (Φ.gl k1).1 (Φ.gl k1).2
section
theorem lG (h1:dY e=some p) (hn:eqS p.2.1 n=true) (hl:p.2.2=l):∃ap pos,e= .Call (.Attribute p.1 n ap) l [] pos∧bg p.1=true∧(ap.endLine==pos.line)=true∧bo l=true:=by
 subst hl;refine av fun gP gO=>?_;refine mW (lr h1) fun ap q e1 k1 k2 k3=>?_;refine gO ?_;exact⟨ap,q,by rw[e1,aO.mp hn],k1,k2,k3⟩
theorem tv (h:ik d f):nj d fun d=>ik d f:=by
 obtain⟨b,rfl,h⟩:=jh h;exact h
variable {a b d lo hi o:X} {op:Op} {xs:XL} {i f g:Nat}
theorem Kp:OkX B Sp gv (.var i)∧OkT B Sp gv (.var i):=by
 refine⟨fun Γ c e W Φ h=>?_,fun Γ c e W Φ h=>?_⟩
 ·refine aj (ax h) fun id h1 h=>?_;refine ar (dM h1) fun p e1=>?_;simp only[e1];exact tL Φ h
 ·refine aj (ax h) fun id h1 h=>?_;refine ar (dM h1) fun p e1=>?_;simp only[e1];exact kF rfl (tL Φ h) fun m σ K KE h=>tv (f:=fun b=>K b σ) h
theorem Ky:OkX B Sp gv (.lit v):=fun Γ c e W Φ h=>by
 refine aj (ax h) fun k h1 h=>?_;simp only[jE h1];exact JW h
theorem GS (ho:OkX B Sp gv o):OkX B Sp gv (.attr o f):=fun Γ c e W Φ h=>by
 refine aj (ax h) fun p h1 h=>?_;refine am (ao h) fun k1 h=>?_;have q7:=ao h;simp only[lu h1,aO.mp q7.1];exact Gz W.ks (m9 k1) (ao q7.2).1 (ho _ _ _ W Φ (ao q7.2).2)
theorem KA (ha:OkX B Sp gv a) (hb:OkX B Sp gv b):OkX B Sp gv (.bin op a b):=fun Γ c e W Φ h=>by
 refine aj (ax h) fun p h1 h=>?_;refine ar (EJ h1) fun q e1=>?_;have q7:=ao h;simp only[e1,c8 q7.1];exact Kf Φ.ok (ha _ _ _ W Φ (ao q7.2).1) (hb _ _ _ W Φ (ao q7.2).2)
theorem Kw (ha:OkX B Sp gv a):OkX B Sp gv (.neg a):=fun Γ c e W Φ h=>by
 refine aj (ax h) fun p h1 h=>?_;refine ar (Ax h1) fun q e1=>?_;refine am (ao h) fun k1 h=>?_;refine er e1 (er (c8 k1) ?_);exact JV (ha _ _ _ W Φ h)
theorem Kv (ha:OkT B Sp gv a):OkT B Sp gv (.not a):=fun Γ c e W Φ h=>by
 refine aj (ax h) fun p h1 h=>?_;refine ar (Ax h1) fun q e1=>?_;refine am (ao h) fun k1 h=>?_;refine er e1 (er (c8 k1) ?_);exact et_not (ha _ _ _ W Φ h)
theorem qE {Γ:Cfg} {e:Expr} {o:BoolOp} {p q:Expr→Bool} (h:((pL e).any fun x=>decide (x.1=o)&&(p x.2.1&&q x.2.2))=true):∃ea eb r pos,e= .BoolOp o (ea::eb::r) pos∧p ea=true∧q (wY o eb r pos)=true:=by
 refine aj (ax h) fun x h1 h=>?_;refine sN (BN h1) fun eb r pos e1 e2=>?_;refine am (ao h) fun k1 h=>?_;obtain⟨k2,h⟩:=ao h;rw[c8 k1] at e1 e2;rw[e2] at h;exact⟨_,_,_,_,e1,k2,h⟩
theorem KB (ha:OkX B Sp gv a∧OkT B Sp gv a) (hb:OkX B Sp gv b∧OkT B Sp gv b):OkX B Sp gv (.and a b)∧OkT B Sp gv (.and a b):=by
 refine⟨fun Γ c e W Φ h=>?_,fun Γ c e W Φ h=>?_⟩
 ·refine Ej (qE (Γ:=Γ) h) fun ea eb r pos e1 k1 k2=>?_;rw[e1];exact Kg (ha.1 _ _ _ W Φ k1) (hb.1 _ _ _ W Φ k2)
 ·refine Ej (qE (Γ:=Γ) h) fun ea eb r pos e1 k1 k2=>?_;rw[e1];exact et_and (ha.2 _ _ _ W Φ k1) (hb.2 _ _ _ W Φ k2)
theorem Mt (ha:OkX B Sp gv a∧OkT B Sp gv a) (hb:OkX B Sp gv b∧OkT B Sp gv b):OkX B Sp gv (.or a b)∧OkT B Sp gv (.or a b):=by
 refine⟨fun Γ c e W Φ h=>?_,fun Γ c e W Φ h=>?_⟩
 ·refine Ej (qE (Γ:=Γ) h) fun ea eb r pos e1 k1 k2=>?_;rw[e1];exact Mp (ha.1 _ _ _ W Φ k1) (hb.1 _ _ _ W Φ k2)
 ·refine Ej (qE (Γ:=Γ) h) fun ea eb r pos e1 k1 k2=>?_;rw[e1];exact et_or (ha.2 _ _ _ W Φ k1) (hb.2 _ _ _ W Φ k2)
theorem Kz (hd:OkT B Sp gv d) (ha:OkX B Sp gv a) (hb:OkX B Sp gv b):OkX B Sp gv (.ife d a b):=fun Γ c e W Φ h=>by
 refine aj (ax h) fun p h1 h=>?_;refine ar (IQ h1) fun q e1=>?_;have q7:=ao h;simp only[e1];exact JX (hd _ _ _ W Φ q7.1) (ha _ _ _ W Φ (ao q7.2).1) (hb _ _ _ W Φ (ao q7.2).2)
theorem Kq (hx:pB B Sp gv xs):OkX B Sp gv (.tup xs):=fun Γ c e W Φ h=>by
 refine aj (ax h) fun p h1 h=>?_;refine cu (EH h1) fun n q e1=>?_;simp only[e1];exact JR Φ.ok (hx _ _ _ W Φ h)
theorem GN (hx:pB B Sp gv xs):OkX B Sp gv (.list mu xs):=fun Γ c e W Φ h=>by
 refine aj (ax h) fun p h1 h=>?_;refine ar (BK h1) fun q e1=>?_;simp only[e1];exact Gq Φ.ok (hx _ _ _ W Φ h)
theorem Kt (ha:OkX B Sp gv a) (hb:OkX B Sp gv b):OkX B Sp gv (.sub a b):=fun Γ c e W Φ h=>by
 refine aj (ax h) fun p h1 h=>?_;refine ar (rd h1) fun q e1=>?_;refine am (ao h) fun k2 h=>?_;simp only[e1];exact JS Φ.ok (ha _ _ _ W Φ k2) (hb _ _ _ W Φ h)
theorem DD (ha:OkX B Sp gv a) (hl:OkX B Sp gv lo) (hh:OkX B Sp gv hi):OkX B Sp gv (.slice a lo hi):=fun Γ c e W Φ h=>by
 refine aj (ax h) fun p h1 h=>?_;refine aj (ax h) fun r h2 h=>?_;refine ar (rd h1) fun q e1=>?_;refine ar (yi h2) fun q' e2=>?_;refine am (ao h) fun k2 h=>?_;refine am (ao h) fun k3 h=>?_;simp only[e1,e2];exact Dq Φ.ok (ha _ _ _ W Φ k2) (AI hl W Φ k3) (AI hh W Φ h)
theorem GR:OkX B Sp gv .barr0:=fun Γ c e W Φ h=>by
 refine aj (ax h) fun p h1 h=>?_;refine cu (cB h1) fun np q e1=>?_;refine am (ao h) fun k1 h=>?_;refine am (ao h) fun k2 h=>?_;refine er e1 (er (t6.mp k1) (er ((aO.mp k2)) ?_));exact Du Φ.ok (W.blt _ (dK "bytearray" (by decide))) ((aO.mp k2)▸(Φ.gl h).1)
theorem wR {e:Expr} {n:PySem.Str} {u:Bool} {p q:Expr→Bool} (h:((dY e).any fun x=>(gi x.2.2).any fun ea=>(u&&eqS x.2.1 n)&&(p x.1&&q ea))=true):∃eo ea ap pos,e= .Call (.Attribute eo n ap) [ea] [] pos∧u=true∧bg eo=true∧(ap.endLine==pos.line)=true∧az ea=true∧p eo=true∧q ea=true:=by
 refine aj (ax h) fun x h1 h=>?_;refine aj (ax h) fun ea h2 h=>?_;refine am (ao h) fun k1 h=>?_;refine mW (lG h1 (ao k1).2 (eS h2)) fun ap pos e1 b1 b2 b3=>?_;exact⟨_,_,_,_,e1,(ao k1).1,b1,b2,(ao b3).1,(ao h).1,(ao h).2⟩
theorem HE {e:Expr} {n:PySem.Str} {p:Expr→Bool} (h:((dY e).any fun x=>x.2.2.isEmpty&&(eqS x.2.1 n&&p x.1))=true):∃eo ap pos,e= .Call (.Attribute eo n ap) [] [] pos∧bg eo=true∧(ap.endLine==pos.line)=true∧p eo=true:=by
 refine aj (ax h) fun x h1 h=>?_;have q7:=ao h;refine mW (lG h1 (ao q7.2).1 (t6.mp q7.1)) fun ap pos e1 b1 b2 b3=>?_;exact⟨_,_,_,e1,b1,b2,(ao q7.2).2⟩
theorem zt (ho:OkX B Sp gv o) (ha:OkX B Sp gv a):OkX B Sp gv (.append o a):=fun Γ c e W Φ h=>by
 refine Ei (wR (u:=true) h) fun eo ea ap pos e1 _ b1 b2 b3 k1 k2=>?_;rw[e1];exact zi Φ.ok b1 b3 b2 (ho _ _ _ W Φ k1) (ha _ _ _ W Φ k2)
theorem zr (ho:OkX B Sp gv o) (ha:OkX B Sp gv a):OkX B Sp gv (.extend o a):=fun Γ c e W Φ h=>by
 refine Ei (wR h) fun eo ea ap pos e1 k0 b1 b2 b3 k1 k2=>?_;rw[e1];exact zh Φ.ok (Φ.hd k0) b1 b3 b2 (ho _ _ _ W Φ k1) (ha _ _ _ W Φ k2)
theorem DB (ho:OkX B Sp gv o) (ha:OkX B Sp gv a):OkX B Sp gv (.split o a):=fun Γ c e W Φ h=>by
 refine Ei (wR (u:=true) h) fun eo ea ap pos e1 _ b1 b2 b3 k1 k2=>?_;rw[e1];exact Dp Φ.ok b1 b3 b2 (ho _ _ _ W Φ k1) (ha _ _ _ W Φ k2)
theorem DH (ho:OkX B Sp gv o) (ha:OkX B Sp gv a):OkX B Sp gv (.index o a):=fun Γ c e W Φ h=>by
 refine Ei (wR (u:=true) h) fun eo ea ap pos e1 _ b1 b2 b3 k1 k2=>?_;rw[e1];exact Dt Φ.ok b1 b3 b2 (ho _ _ _ W Φ k1) (ha _ _ _ W Φ k2)
theorem Ku (ho:OkX B Sp gv o):OkX B Sp gv (.pop o):=fun Γ c e W Φ h=>by
 refine eA (HE h) fun eo ap pos e1 b1 b2 k1=>?_;rw[e1];exact JT Φ.ok b1 b2 (ho _ _ _ W Φ k1)
theorem DG (ho:OkX B Sp gv o):OkX B Sp gv (.lower o):=fun Γ c e W Φ h=>by
 refine eA (HE h) fun eo ap pos e1 b1 b2 k1=>?_;rw[e1];exact Ds Φ.ok b1 b2 (ho _ _ _ W Φ k1)
theorem GO (ho:OkX B Sp gv o) (ha:OkX B Sp gv a) (hb:OkX B Sp gv b):OkX B Sp gv (.find o a b):=fun Γ c e W Φ h=>by
 refine aj (ax h) fun p h1 h=>?_;refine aj (ax h) fun ea h2 h=>?_;refine am (ao h) fun k1 h=>?_;refine am (ao h) fun k2 h=>?_;refine am (ao h) fun k3 h=>?_;refine mW (lG h1 k1 (jT h2)) fun ap q e1 b1 b2 b3=>?_;simp only[e1];exact Gs Φ.ok b1 (ao b3).1 (ao (ao b3).2).1 b2 (ho _ _ _ W Φ k2) (ha _ _ _ W Φ k3) (hb _ _ _ W Φ h)
theorem GQ (hx:pB B Sp gv xs):OkX B Sp gv (.call g xs)∧OkT B Sp gv (.call g xs):=by
 refine⟨fun Γ c e W Φ h=>xk hx W Φ h,fun Γ c e W Φ h=>kF ?_ (xk hx W Φ h) fun m σ K KE h=>h⟩;refine aj (ax h) fun p h1 h=>?_;refine cu (cB h1) fun np q e1=>?_;rw[e1];rfl
theorem DE (ho:OkX B Sp gv o) (hx:pB B Sp gv xs):OkX B Sp gv (.mcall g o xs)∧OkT B Sp gv (.mcall g o xs):=by
 refine⟨fun Γ c e W Φ h=>tF ho hx W Φ h,fun Γ c e W Φ h=>kF ?_ (tF ho hx W Φ h) fun m σ K KE h=>h⟩;refine aj (ax h) fun p h1 h=>?_;refine dU (lr h1) fun ap q e1 _=>?_;rw[e1];rfl
theorem GP (ha:OkX B Sp gv a) (hx:pB B Sp gv xs):pB B Sp gv (.cons a xs):=fun Γ c es W Φ h=>by
 refine aj (ax h) fun p h1 h=>?_;refine am (ao h) fun k1 h=>?_;refine am (ao h) fun k2 h=>?_;simp only[km h1];exact cz k1 (ha _ _ _ W Φ k2) (hx _ _ _ W Φ h) Φ.ok
theorem fh (h:OkX B Sp gv a) (h':∀Γ e,mD a Γ e=false):OkX B Sp gv a∧OkT B Sp gv a:=⟨h,fun Γ c e W Φ z=>noT ((h' Γ e).symm.trans z)⟩
theorem Lu (h:OkT B Sp gv a) (h':∀Γ e,aQ a Γ e=false):OkX B Sp gv a∧OkT B Sp gv a:=⟨fun Γ c e W Φ z=>noT ((h' Γ e).symm.trans z),h⟩
theorem ub (x:X):OkX B Sp gv x∧OkT B Sp gv x:=
 X.rec (motive_1:=fun x=>OkX B Sp gv x∧OkT B Sp gv x) (motive_2:=pB B Sp gv)
  ⟨fun _ _ _ _ _ h=>noT h,fun _ _ _ _ _ h=>noT h⟩
  (fun _=>Kp) (fun _=>fh Ky fun _ _=>rfl) (fun _=>fh (fun _ _ _ W Φ h=>FI W Φ h) fun _ _=>rfl)
  (fun _ _ ho=>fh (GS ho.1) fun _ _=>rfl) (fun _ _ _ ha hb=>fh (KA ha.1 hb.1) fun _ _=>rfl) (fun _ ha=>fh (Kw ha.1) fun _ _=>rfl) (fun _ ha=>Lu (Kv ha.2) fun _ _=>rfl)
  (fun _ _ ha hb=>KB ha hb) (fun _ _ ha hb=>Mt ha hb)
  (fun _ _ _ ha hb=>⟨fun _ _ _ W Φ h=>(AJ ha.1 hb.1 W Φ h).1,fun _ _ _ W Φ h=>(AJ ha.1 hb.1 W Φ h).2⟩)
  (fun _ _ _ _ _ ha hb hd=>⟨fun _ _ _ W Φ h=>(xj ha.1 hb.1 hd.1 W Φ h).1,fun _ _ _ W Φ h=>(xj ha.1 hb.1 hd.1 W Φ h).2⟩)
  (fun _ _ _ hd ha hb=>fh (Kz hd.2 ha.1 hb.1) fun _ _=>rfl) (fun _ hx=>fh (Kq hx) fun _ _=>rfl) (fun _ _ hx=>fh (GN hx) fun _ _=>rfl)
  (fun _ _ ha hb=>fh (Kt ha.1 hb.1) fun _ _=>rfl) (fun _ _ _ ha hl hh=>fh (DD ha.1 hl.1 hh.1) fun _ _=>rfl)
  (fun _ _ hx=>GQ hx) (fun _ _ _ ho hx=>DE ho.1 hx) (fun _ _ _ hx=>fh (fun _ _ _ W Φ h=>Jr hx W Φ h) fun _ _=>rfl)
  (fun _ _ ha=>⟨fun _ _ _ W Φ h=>(xh ha.1 W Φ h).1,fun _ _ _ W Φ h=>(xh ha.1 W Φ h).2⟩) (fun _ _ ha=>fh (fun _ _ _ W Φ h=>Ju ha.1 W Φ h) fun _ _=>rfl) (fh GR fun _ _=>rfl)
  (fun _ _ ho ha=>fh (zt ho.1 ha.1) fun _ _=>rfl) (fun _ _ ho ha=>fh (zr ho.1 ha.1) fun _ _=>rfl) (fun _ ho=>fh (Ku ho.1) fun _ _=>rfl)
  (fun _ ha=>fh (fun _ _ _ W Φ h=>JY Φ.ok (ha.1 _ _ _ W Φ h)) fun _ _=>rfl) (fun _ ho=>fh (DG ho.1) fun _ _=>rfl)
  (fun _ _ ho ha=>fh (DB ho.1 ha.1) fun _ _=>rfl) (fun _ _ _ ho ha hb=>fh (GO ho.1 ha.1 hb.1) fun _ _=>rfl) (fun _ _ ho ha=>fh (DH ho.1 ha.1) fun _ _=>rfl)
  (fun _ _ ha=>fh (fun _ _ _ W Φ h=>Jt ha.1 W Φ h) fun _ _=>rfl) (fun _ ha=>Lu (fun _ _ _ W Φ h=>Cv ha.1 W Φ h) fun _ _=>rfl)
  (fun _ _ _ _ _ _ _ he hq ha hf=>fh (fun _ _ _ W Φ h=>(xi he.1 hq.2 ha.1 hf.1 W Φ h).1) fun _ _=>rfl)
  (fun _ _ _ _ _ h=>t6.mp h▸ej) (fun _ _ ha hx=>GP ha.1 hx) x
theorem cD (x:X):OkX B Sp gv x:=(ub x).1
theorem rL (x:X):OkT B Sp gv x:=(ub x).2
end
noncomputable def HX:(x:X)→Option (PLift (∃mu elt cond i kind a f,x= .comp mu elt cond i kind a f))|.comp .. =>some ⟨_,_,_,_,_,_,_,rfl⟩|_=>none
noncomputable def AR (x:X):Bool:=(HX x).isSome
theorem yX (h:AR x=true):∃mu elt cond i kind a f,x= .comp mu elt cond i kind a f:=((HX x).get h).down
noncomputable def Cfg.okPut (Γ:Cfg) (n:PySem.Str) (cl:Bool):Bool:= !cl||(Γ.cw&&uU (dg n Γ.names))
noncomputable def AA (n:PySem.Str×Pos) (v:Expr):Bool:=Nat.beq n.2.line v.pos.line&&(zT v).any fun q=>q.2.2.2.2.names.all fun y=> !eqS y.1 n.1
noncomputable def zX (Γ:Cfg):List Nat→List Expr→Option pA
 |[],es=>ifO (es.isEmpty=true) []
 |i::is,es=>(sS es).bind fun p=>(nv p.1).bind fun n=>(Γ.vars.find? fun x=>Nat.beq x.1 i&&(eqS x.2.1 n.1&&Γ.okPut n.1 x.2.2)).bind fun x=>(zX Γ is p.2).map ((x,n.2):: ·)
noncomputable def EI {α:Type}:(l:List α)→Option {x:α×α×α//l=[x.1,x.2.1,x.2.2]}|[]=>none|[_]=>none|[_,_]=>none|[a,b,c]=>some ⟨(a,b,c),rfl⟩|_::_::_::_::_=>none
noncomputable def Ay {α:Type} (l:List α):Option (α×α×α):=(EI l).map (·.1)
theorem yh {α:Type} {l:List α} {x} (h:Ay l=some x):l=[x.1,x.2.1,x.2.2]:=eU (P:=fun x:α×α×α=>l=[x.1,x.2.1,x.2.2]) h
noncomputable def IR:(e:ExceptHandler)→Option {x:Expr×PySem.Str×Stmt×List Stmt//∃p,e= .ExceptHandler (some x.1) (some x.2.1) (x.2.2.1::x.2.2.2) p}
 |.ExceptHandler t n l p=>match t,n,l with|some t,some n,b::bs=>some ⟨(t,n,b,bs),p,rfl⟩|_,_,_=>none
noncomputable def Hk (e:ExceptHandler):Option (Expr×PySem.Str×Stmt×List Stmt):=(IR e).map (·.1)
theorem BL {x} (h:Hk e=some x):∃p,e= .ExceptHandler (some x.1) (some x.2.1) (x.2.2.1::x.2.2.2) p:=eU (P:=fun x:Expr×PySem.Str×Stmt×List Stmt=>∃p,e= .ExceptHandler (some x.1) (some x.2.1) (x.2.2.1::x.2.2.2) p) h
noncomputable def MB (Γ:Cfg) (kind:Nat) (a f:X) (it:Expr):Bool:=match kind with
 |0=>(cn it).any fun q=>(gi q.2).any fun ea=>fF f&&((eqS q.1 "range"&&Γ.gl q.1)&&(az ea&&aQ a Γ ea))
 |1=>(cn it).any fun q=>(mV q.2).any fun es=>(eqS q.1 "range"&&Γ.gl q.1)&&((az es.1&&az es.2)&&(aQ a Γ es.1&&aQ f Γ es.2))
 |2=>fF f&&(iP it&&aQ a Γ it)
 |3=>(cn it).any fun q=>(gi q.2).any fun ea=>fF f&&((eqS q.1 "reversed"&&Γ.gl q.1)&&(az ea&&aQ a Γ ea))
 |_=>false
set_option backward.match.sparseCases false in
mutual
noncomputable def HY:S→Cfg→Stmt→Bool
 |.assign i e,Γ,st=>(sw 0 st).any fun p=>(nv p.1).any fun n=>bif cZ p.2 then Γ.has i n.1 (Γ.okPut n.1)&&aQ e Γ p.2 else Γ.has i n.1 (! ·)&&(AR e&&(aQ e Γ p.2&&AA n p.2))
 |.assignT is e,Γ,st=>(sw 0 st).any fun p=>(zS p.1).any fun q=>(zX Γ is q.1).any fun tp=>decide ((tp.map (·.1.1)).Nodup)&&(Γ.hd&&(qM p.2&&(cZ p.2&&aQ e Γ p.2)))
 |.setattr o f e,Γ,st=>(sw 0 st).any fun p=>(qD p.1).any fun q=>Nat.ble (f+1) 9&&(eqS q.2.1 (aq f)&&(cZ p.2&&(aQ o Γ q.1&&aQ e Γ p.2)))
 |.expr e,Γ,st=>(sw 1 st).any fun v=>cZ v&&aQ e Γ v
 |.ite c a b,Γ,st=>(sw 2 st).any fun p=>mD c Γ p.1&&(fK a Γ p.2.1&&fK b Γ p.2.2)
 |.while_ c b,Γ,st=>(sw 3 st).any fun p=>mD c Γ p.1&&fK b Γ p.2
 |.for_ i kind e f b,Γ,st=>(sw 4 st).any fun p=>(nv p.1).any fun n=>(Γ.hd&&Γ.has i n.1 (Γ.okPut n.1))&&(MB Γ kind e f p.2.1&&fK b Γ p.2.2)
 |.ret e,Γ,st=>(sw 5 st).any fun v=>aQ e Γ v
 |.raise NE ND NC,Γ,st=>(sw 6 st).any fun v=>(cn v).any fun p=>(Ay p.2).any fun q=>(Γ.hd&&(eqS p.1 "BadText"&&Γ.gl p.1))&&((az q.1&&(az q.2.1&&az q.2.2))&&(aQ NE Γ q.1&&(aQ ND Γ q.2.1&&aQ NC Γ q.2.2)))
 |.try_ b i h,Γ,st=>(sw 7 st).any fun p=>(Hk p.2).any fun q=>(ii q.1).any fun n=>(eqS n "BadText"&&Γ.gl n)&&(Γ.has i q.2.1 (! ·)&&(fK b Γ p.1&&fK h {Γ with hd:=false} (q.2.2.1::q.2.2.2)))
 |.cont,Γ,st=>(sw 8 st).isSome
 |.brk,Γ,st=>(sw 9 st).isSome
 |_,_,_=>false
noncomputable def fK:S→Cfg→List Stmt→Bool
 |.skip,Γ,ss=>ss.isEmpty
 |.seq a b,Γ,ss=>(sS ss).any fun p=>HY a Γ p.1&&fK b Γ p.2
 |.dead,_,_=>true
 |_,_,_=>false
end
section
variable {Γ:Cfg}
theorem Fits.ck (Φ:Fits B c Γ) (h:Γ.okPut n cl=true):cl=true→c.ck n:=by
 intro z;subst z;refine am (ao (show(Γ.cw&&uU (dg n Γ.names))=true from h)) fun a b=>?_;refine am (Φ.cell a) fun h1 h2=>?_;exact⟨h2 n (by rw[←bN];exact mP b),h1⟩
theorem Fits.held (Φ:Fits B c Γ) (e:Addr):Fits B (c.held e) {Γ with hd:=false}:=⟨FC.held_ok Φ.ok e,(nomatch ·),Φ.vars,Φ.glob,Φ.cell,Φ.lev⟩
theorem Wd.held (W:Wd B Sp gv Γ):Wd B Sp gv {Γ with hd:=false}:=⟨W.ks,W.kt,W.ki,W.kd,W.ke,W.blt,W.fns,W.mts,W.news,W.gst⟩
theorem ti (Φ:Fits B c Γ):∀{is:List Nat} {es:List Expr} {tp:pA},zX Γ is es=some tp→is=tp.map (·.1.1)∧es=kR tp∧∀x∈tp,x.1∈c.vars∧(x.1.2.2=true→c.ck x.1.2.1)
 |[],es,tp,h=>by
  refine am (jZ h) fun a z1_=>?_;subst z1_;exact⟨rfl,t6.mp a,fun x hx=>nomatch hx⟩
 |i::is,es,tp,h=>bX h fun p h1 h=>bX h fun n h2 h=>bX h fun x h3 h=>iQ h fun d h4 e=>by
  refine er e.symm ?_;refine av fun gP gO=>?_;refine cQ (ti Φ h4) fun e1 e2 e3=>?_;have hf:=List.find?_some h3;refine am (ao hf) fun k1 k2=>?_;refine am (ao k2) fun k2 k3=>?_;have e4:=o8 k1;have e5:=aO.mp k2;refine gO ?_;refine⟨by rw[j3,←e1,←e4],by rw[km h1,iX h2,e2,←e5];rfl,fun y hy=>?_⟩;rcases d0.mp hy with rfl|hy
  ·exact⟨by rw[Φ.vars];exact List.mem_of_find?_eq_some h3,by rw[e5];exact Φ.ck k3⟩
  ·exact e3 y hy
theorem EP (hc:c.Ok B) (hm:(i,n.1,false)∈c.vars) (h:AA n v=true):swapsWith v (some (.Name n.1 n.2)) l c.env=pure true:=by
 refine av fun gP gO=>?_;refine am (ao h) fun k1 h=>?_;replace h:=ax h;obtain⟨q,h1,h⟩:=h;refine cu (te h1) fun px p ev=>?_;refine gO ?_;rw[ev] at k1⊢;have e1:c.env.blockKind= .function:=by unfold Env.blockKind;rw[hc.kind];rfl
 have e2:=hc.vloc _ hm rfl;have e3:n.2.line=p.line:=o8 k1;have e4:(q.2.2.2.2.names.any fun x=>x.1==n.1&&(x.2== .local||x.2== .cell))=false:=by
  rw[List.any_eq_false];intro y hy z;have:=gn (j9.mp h y hy);rw[aO.mpr (A5.mp (ao z).1)] at this;exact nomatch this
 show(pure (c.env.blockKind== .function&&c.env.kindOf n.1==some .local&&n.2.line==p.line&& !(q.2.2.2.2.names.any fun x=>x.1==n.1&&(x.2== .local||x.2== .cell))):Sem Bool)=pure true;refine er e1 (er e2 (er e3 (er e4 (er (l9 p.line) ?_))));rfl
end
section
variable (B:Bs) (Sp:Nat→aP) (gv:Nat→List Nat)
def jO (x:S):Prop:=∀(Γ:Cfg) (c:FC) (st:Stmt),Wd B Sp gv Γ→Fits B c Γ→HY x Γ st=true→ES1 B c Sp gv x st
def mY (x:S):Prop:=∀(Γ:Cfg) (c:FC) (ss:List Stmt),Wd B Sp gv Γ→Fits B c Γ→fK x Γ ss=true→ES B c Sp gv x ss
end
section
variable {Γ:Cfg} {st:Stmt} {a b:S} {i:Nat} {e f e':X}
theorem GJ:ES B c Sp gv .dead ss:=fun m σ s Kn Kr Kb Kc KE h S=>False.elim h
theorem zx:jO B Sp gv (.assign i e):=by
 intro Γ c st W Φ h;refine av fun gP gO=>?_;refine aj (ax h) fun w h0 h=>?_;refine ar (gY h0) fun p hv=>?_;refine aj (ax h) fun n h1 h=>?_;refine gO ?_;simp only[hv,iX h1];cases q:cZ w.2 with
 |true=>
  rw[q] at h;refine av fun gP gO=>?_;refine am (ao h) fun k1 h=>?_;refine aj (Γ.has_mem k1) fun cl hm hp=>?_;refine gO ?_;exact Cg Φ.ok (Φ.vars▸hm) (Φ.ck hp) q (cD e _ _ _ W Φ h)
 |false=>
  rw[q] at h;refine av fun gP gO=>?_;refine am (ao h) fun k1 h=>?_;refine am (ao h) fun k2 h=>?_;refine am (ao h) fun k3 h=>?_;refine aj (Γ.has_mem k1) fun cl hm hp=>?_;rw[gn hp,←Φ.vars] at hm;obtain⟨mu,elt,cond,j,kind,a,f,ee⟩:=yX k2;refine gO ?_;rw[ee] at k3⊢;exact(xi (cD elt) (rL cond) (cD a) (cD f) W Φ k3).2 hm (EP (l:=p.line) Φ.ok hm h)
theorem wG:jO B Sp gv (.assignT is e):=by
 intro Γ c st W Φ h;refine av fun gP gO=>?_;refine aj (ax h) fun w h0 h=>?_;refine ar (gY h0) fun p hv=>?_;refine aj (ax h) fun q h1 h=>?_;refine aj (ax h) fun tp h2 h=>?_;refine am (ao h) fun k1 h=>?_;refine am (ao h) fun k2 h=>?_;refine am (ao h) fun k3 h=>?_;refine am (ao h) fun k4 h=>?_;have q7:=ti Φ h2;refine gO ?_;simp only[hv,td h1,q7.2.1,q7.1];exact yB Φ.ok (Φ.hd k2) q7.2.2 (c8 k1) k3 k4 (cD e _ _ _ W Φ h)
theorem wF {o:X} {f:Nat}:jO B Sp gv (.setattr o f e):=by
 intro Γ c st W Φ h;refine av fun gP gO=>?_;refine aj (ax h) fun w h0 h=>?_;refine ar (gY h0) fun p hv=>?_;refine aj (ax h) fun q h1 h=>?_;refine am (ao h) fun k1 h=>?_;refine am (ao h) fun k2 h=>?_;refine am (ao h) fun k3 h=>?_;refine am (ao h) fun k4 h=>?_;refine gO ?_;simp only[hv,lu h1,aO.mp k2];exact yA Φ.ok W.ks (m9 k1) k3 (cD o _ _ _ W Φ k4) (cD e _ _ _ W Φ h)
theorem GY:jO B Sp gv (.expr e):=by
 intro Γ c st W Φ h;refine aj (ax h) fun v h0 h=>?_;refine ar (gY h0) fun p hv=>?_;refine am (ao h) fun k1 h=>?_;simp only[hv];exact Jg Φ.ok k1 (cD e _ _ _ W Φ h)
theorem KH (ha:mY B Sp gv a) (hb:mY B Sp gv b):jO B Sp gv (.ite e a b):=by
 intro Γ c st W Φ h;refine av fun gP gO=>?_;refine aj (ax h) fun v h0 h=>?_;refine ar (gY h0) fun p hv=>?_;refine am (ao h) fun k1 h=>?_;refine am (ao h) fun k2 h=>?_;refine gO ?_;simp only[hv];exact L9 (rL e _ _ _ W Φ k1) (ha _ _ _ W Φ k2) (hb _ _ _ W Φ h)
theorem DL (hb:mY B Sp gv b):jO B Sp gv (.while_ e b):=by
 intro Γ c st W Φ h;refine aj (ax h) fun v h0 h=>?_;refine ar (gY h0) fun p hv=>?_;refine am (ao h) fun k1 h=>?_;simp only[hv];exact Ff Φ.ok (rL e _ _ _ W Φ k1) (hb _ _ _ W Φ h)
theorem KJ (hb:mY B Sp gv b):jO B Sp gv (.for_ i kind e f b):=by
 intro Γ c st W Φ h;refine av fun gP gO=>?_;refine aj (ax h) fun v h0 h=>?_;refine ar (gY h0) fun p hv=>?_;refine aj (ax h) fun n h1 h=>?_;refine am (ao h) fun k1 h=>?_;refine am (ao k1) fun k1 k2=>?_;refine am (ao h) fun k3 h=>?_;refine aj (Γ.has_mem k2) fun cl hm hp=>?_;refine gO ?_;refine er hv (er (iX h1) ?_);exact Ma Φ.ok (by rw[Φ.vars];exact hm) (Φ.ck hp) (Φ.hd k1) (vf (cD e) (cD f) W Φ (Φ.hd k1) k3) (hb _ _ _ W Φ h)
theorem KG:jO B Sp gv (.ret e):=by
 intro Γ c st W Φ h;refine aj (ax h) fun v h0 h=>?_;refine ar (gY h0) fun p hv=>?_;simp only[hv];exact L8 (cD e _ _ _ W Φ h)
theorem DM:jO B Sp gv (.raise e f e'):=by
 intro Γ c st W Φ h;refine av fun gP gO=>?_;refine aj (ax h) fun v h0 h=>?_;refine ar (gY h0) fun p hv=>?_;refine aj (ax h) fun r h1 h=>?_;refine aj (ax h) fun q h2 h=>?_;refine cu (cB h1) fun np cp e1=>?_;refine am (ao h) fun k1 h=>?_;refine am (ao k1) fun k1 k2=>?_;refine am (ao k2) fun k2 k3=>?_;refine am (ao h) fun k4 h=>?_;refine am (ao k4) fun n1 k4=>?_;refine am (ao k4) fun n2 n3=>?_;refine am (ao h) fun k5 h=>?_;refine am (ao h) fun k6 h=>?_;refine MH W.ke fun _ _ _ _ _ K=>?_;refine gO ?_;simp only[hv,e1,yh h2,(aO.mp k2)];exact Fg Φ.ok (Φ.hd k1) K n1 n2 n3 (cD e _ _ _ W Φ k5) (cD f _ _ _ W Φ k6) (cD e' _ _ _ W Φ h) ((aO.mp k2)▸(Φ.gl k3).1)
theorem KC (ha:mY B Sp gv a) (hb:mY B Sp gv b):jO B Sp gv (.try_ a i b):=by
 intro Γ c st W Φ h;refine av fun gP gO=>?_;refine aj (ax h) fun v h0 h=>?_;refine ar (gY h0) fun p hv=>?_;refine aj (ax h) fun q h1 h=>?_;refine aj (ax h) fun n h2 h=>?_;refine ar (BL h1) fun hp e1=>?_;refine ar (dM h2) fun np e2=>?_;refine am (ao h) fun k1 h=>?_;refine am (ao k1) fun k1 k2=>?_;refine am (ao h) fun k3 h=>?_;refine am (ao h) fun k4 h=>?_;refine aj (Γ.has_mem k3) fun cl hm hq=>?_;rw[gn hq,←Φ.vars] at hm;refine gO ?_;refine er hv (er e1 (er e2 (er ((aO.mp k1)) ?_)));exact LZ Φ.ok W.kt hm ((aO.mp k1)▸(Φ.gl k2).1) (ha _ _ _ W Φ k4) fun e=>hb _ _ _ W.held (Φ.held e) h
theorem GZ:jO B Sp gv .cont:=by
 intro Γ c st W Φ h;refine ar (d9.mp h) fun x h=>?_;refine ar (gY h) fun p hv=>?_;rw[hv];exact Jh
theorem KL:jO B Sp gv .brk:=by
 intro Γ c st W Φ h;refine ar (d9.mp h) fun x h=>?_;refine ar (gY h) fun p hv=>?_;rw[hv];exact Mb
theorem KF (ha:jO B Sp gv a) (hb:mY B Sp gv b):mY B Sp gv (.seq a b):=by
 intro Γ c ss W Φ h;refine aj (ax h) fun p h1 h=>?_;exact(km h1)▸(GK (ha _ _ _ W Φ (ao h).1) (hb _ _ _ W Φ (ao h).2))
theorem GX:mY B Sp gv .skip:=fun Γ c ss W Φ h=>t6.mp h▸Bg
theorem KM (x:S):jO B Sp gv x∧mY B Sp gv x:=by
 induction x with
 |assign i e=>exact⟨zx,fun _ _ _ _ _ h=>noT h⟩
 |assignT is e=>exact⟨wG,fun _ _ _ _ _ h=>noT h⟩
 |setattr o f e=>exact⟨wF,fun _ _ _ _ _ h=>noT h⟩
 |expr e=>exact⟨GY,fun _ _ _ _ _ h=>noT h⟩
 |ite q a b ha hb=>exact⟨KH ha.2 hb.2,fun _ _ _ _ _ h=>noT h⟩
 |while_ q b hb=>exact⟨DL hb.2,fun _ _ _ _ _ h=>noT h⟩
 |for_ i kind e f b hb=>exact⟨KJ hb.2,fun _ _ _ _ _ h=>noT h⟩
 |ret e=>exact⟨KG,fun _ _ _ _ _ h=>noT h⟩
 |raise a b c=>exact⟨DM,fun _ _ _ _ _ h=>noT h⟩
 |try_ a i b ha hb=>exact⟨KC ha.2 hb.2,fun _ _ _ _ _ h=>noT h⟩
 |cont=>exact⟨GZ,fun _ _ _ _ _ h=>noT h⟩
 |brk=>exact⟨KL,fun _ _ _ _ _ h=>noT h⟩
 |skip=>exact⟨fun _ _ _ _ _ h=>noT h,GX⟩
 |dead=>exact⟨fun _ _ _ _ _ h=>noT h,fun _ _ _ _ _ _=>GJ⟩
 |seq a b ha hb=>exact⟨fun _ _ _ _ _ h=>noT h,KF ha.1 hb.2⟩
theorem uc (x:S):mY B Sp gv x:=(KM x).2
end
set_option tactic.hygienic true in
theorem kA {K:Frag} {fa:Addr} {b:FuncBody} {P:Arguments} {sc:Scope} {dv:Value} (h:fnV K fa=some (b,P,sc,true,dv)):∃o fd,K.lookup fa=some o∧o.data= .func fd∧fd.body=b∧fd.params=P∧fd.scope=sc∧fd.defaults=dv∧
  codeIn K fd.code fd.qualname=true∧fd.globals=mainGlobals∧fd.builtins=builtinsNs∧fd.closure=[]∧keepIn K (.ref fa)=true∧fd.kwdefaults= .none∧typeIn K (.ref fa)=some (.type "function"):=by
 unfold fnV at h
 split at h
 ·rename_i o ho
  split at h
  ·rename_i fd hd
   simp only[Option.some.injEq,B7,I3,A5,t6] at h;refine av fun gP gO=>?_;refine xY h fun h1 h2 h3 z3_ h11=>?_;obtain⟨⟨⟨⟨⟨⟨h4,h5⟩,h6⟩,h7⟩,h8⟩,h9⟩,h10⟩:=z3_;refine gO ?_;exact⟨o,fd,ho,hd,h1,h2,h3,h11,h4,h5,h6,h7,h8,h9,h10⟩
  ·cases h
 ·cases h
theorem sY:∀{ns:List PySem.Str} {vs:List Value},vs.length=ns.length→∀n∈ns,((ns.zip vs).lookup n).isSome=true
 |[],_,_,n,h=>nomatch h
 |m::ns,v::vs,hl,n,h=>by
  refine er x6 (er j5 ?_);by_cases z:n=m
  ·subst z;rw[l9];rfl
  ·refine er (j6.mpr z) ?_;exact sY (by simpa using hl) n ((d0.mp h).resolve_left z)
 |_::_,[],hl,_,_=>by cases hl
theorem ta:∀{ns:List PySem.Str} {vs:List Value} (ms:List (PySem.Str×Value)),vs.length=ns.length→ns.Nodup→(∀n∈ns,ms.lookup n=(ns.zip vs).lookup n)→(ns.filterMap fun n=>(ms.lookup n).map (n, ·))=ns.zip vs
 |[],_,_,_,_,_=>by simp
 |m::ns,v::vs,ms,hl,hn,h=>by
  refine am (i4.mp hn) fun h1 h2=>?_;have e:=h m (.head _);rw[x6,j5,l9] at e;refine er y9 (er e (er x6 ?_));dsimp only[Option.map_some];rw[ta ms (by simpa using hl) h2 fun n hn'=>?_];have ne:n≠m:=fun z=>by subst z;exact h1 hn'
  exact er (h n (.tail _ hn')) (er x6 (er j5 (er (j6.mpr ne) rfl)))
 |_::_,[],_,hl,_,_=>by cases hl
theorem AQ {α:Type} {c:Prop} [Decidable c] {a b x:α} (h:¬c) (k:b=x):(if c then a else b)=x:=(i3 h).trans k
theorem sk {ns:List PySem.Str} {vs:List Value} (hl:vs.length=ns.length):((ns.take ns.length).filter fun n=>((ns.zip vs).lookup n).isNone)=[]:=by
 rw[H5];intro n hn z;have:=sY hl n (List.mem_of_mem_take hn);rw[A7.mp z] at this;cases this
theorem iK {fd:FuncData} {as:List Arg} (hp:fd.params=⟨[],as,none,[],[],none,[]⟩) (hd:fd.defaults= .none) (hn:(as.map (·.arg)).Nodup) {vs:List Value} (hl:vs.length=as.length):bindArgs fd ⟨vs,[]⟩=pure ((as.map (·.arg)).zip vs):=by
 have hl':vs.length=(as.map (·.arg)).length:=hl.trans (f7 _).symm;cases fd;cases hp;cases hd;refine AQ (fun z=>K0 (c8 (ao z).1) hl') ?_;refine er (show List.drop _ (Option.getD none #[]).toList=[] from L7) ?_;refine AQ (fun z=>?_) ?_
 ·have z:(!(((as.map (·.arg)).take (as.map (·.arg)).length).filter fun n=>(((as.map (·.arg)).zip vs).lookup n).isNone).isEmpty)=true:=z;rw[sk hl'] at z;cases z
 ·refine er List.zip_nil_right ?_;show(pure (List.filterMap (fun n=>(List.lookup n ((as.map (·.arg)).zip vs)).map (n, ·)) (as.map (·.arg)++[])):Sem (List (PySem.Str×Value)))=_;rw[d7,ta _ hl' hn fun n _=>rfl]
noncomputable def vg:List PySem.Str→Bool
 |[]=>true
 |n::r=>(r.all fun m=> !eqS n m)&&vg r
theorem gB:∀{l:List PySem.Str},vg l=true→l.Nodup
 |[],_=>List.nodup_nil
 |n::r,h=>by
  refine am (ao h) fun a b=>?_;refine i4.mpr ⟨fun z=>?_,gB b⟩;have:=gn (j9.mp a n z);rw[aO.mpr rfl] at this;exact nomatch this
noncomputable def Ad (x y:Nat×PySem.Str×Bool):Bool:=Nat.beq x.1 y.1&&(eqS x.2.1 y.2.1&&(x.2.2==y.2.2))
theorem tz {x y:Nat×PySem.Str×Bool} (h:Ad x y=true):x=y:=by
 obtain⟨a,b,d⟩:=x;obtain⟨a',b',d'⟩:=y;refine am (ao h) fun h1 h=>?_;refine am (ao h) fun h2 h3=>?_;have e1:=o8 h1;have e2:=aO.mp h2;have e3:=A5.mp h3;dsimp only at e1 e2 e3;subst e1;subst e2;subst e3;rfl
noncomputable def nr (vars:List (Nat×PySem.Str×Bool)) (as:List Arg) (sc:Scope):Bool:=
 (vars.all fun x=>(bif x.2.2 then uU (dg x.2.1 sc.names) else sL (dg x.2.1 sc.names))&&vars.all fun y=>(!Nat.beq x.1 y.1||Ad x y)&&(!eqS x.2.1 y.2.1||Ad x y))&&
 ((qR sc.kind&&(!sc.isCoroutine&& !sc.isGenerator))&&(vg (as.map (·.arg))&&(as.all fun a=>sL (dg a.arg sc.names)||uU (dg a.arg sc.names))))
noncomputable def gz (vars:List (Nat×PySem.Str×Bool)) (ns:List PySem.Str):Bool:=vars.all fun y=>match ns[y.1]? with|some n=>eqS n y.2.1|none=>true
theorem tc {vars:List (Nat×PySem.Str×Bool)} {as:List Arg} {fd:FuncData} (h:nr vars as fd.scope=true):VarsC fd vars:=by
 refine am (ao h) fun h _=>?_;have h:=j9.mp h;refine⟨fun x hx=>?_,fun x hx y hy e=>?_,fun x hx y hy e=>?_⟩
 ·have:=(ao (h x hx)).1;cases q:x.2.2 with
  |true=>rw[q] at this;rw[i7 rfl,←bN];exact mP this
  |false=>rw[q] at this;rw[i3 (by simp),←bN];exact gK this
 ·have:=(ao (j9.mp (ao (h x hx)).2 y hy)).1;rw[e,Nat.beq_refl] at this;exact tz this
 ·have:=(ao (j9.mp (ao (h x hx)).2 y hy)).2;rw[e,aO.mpr rfl] at this;exact tz this
theorem xq:∀{ns:List PySem.Str} {vs:List Value} {n:PySem.Str},n∉ns→(ns.zip vs).reverse.lookup n=none
 |[],_,_,_=>by simp
 |_::_,[],_,_=>by simp
 |m::ns,v::vs,n,h=>by
  refine er x6 (er l6 (er K9 (er (xq fun z=>h (.tail _ z)) (er j5 (er (j6.mpr fun z=>h (by rw[z];exact .head _)) ?_)))));rfl
theorem HH:∀{ns:List PySem.Str} {vs:List Value} {i:Nat} {n:PySem.Str} {v:Value},ns.Nodup→ns[i]?=some n→vs[i]?=some v→(ns.zip vs).reverse.lookup n=some v
 |[],_,_,_,_,_,h,_=>by simp at h
 |_::_,[],_,_,_,_,_,h=>by simp at h
 |m::ns,w::vs,0,n,v,hn,h1,h2=>by
  refine am (i4.mp hn) fun g1 g2=>?_;simp only[List.getElem?_cons_zero,Option.some.injEq] at h1 h2;subst h1;subst h2;rw[x6,l6,K9,xq g1,j5,l9];rfl
 |m::ns,w::vs,i+1,n,v,hn,h1,h2=>by
  refine am (i4.mp hn) fun g1 g2=>?_;refine er x6 (er l6 (er K9 (er (HH g2 h1 h2) ?_)));rfl
theorem Ar {P:Addr→Prop} {h:Heap} {ns:List PySem.Str} {vs:List Value} {ds:List V} (r:Rvs B P h vs ds) (hl:ds.length=ns.length) (hn:ns.Nodup) {i:Nat} {n:PySem.Str} (hi:ns[i]?=some n):∃v,(ns.zip vs).reverse.lookup n=some v∧Rv B P h v (ds.getD i .unb):=by
 have hil:i<ds.length:=by rw[hl];exact(i5.mp hi).1
 refine aj (r.get (g7 hil)) fun v hv' rr=>?_;exact⟨v,HH hn hi hv',by rw[n7,g7 hil];exact rr⟩
theorem Mo {fa:Addr} {body:List Stmt} {as:List Arg} {sc:Scope} (hV:fnV B.K fa=some (.stmts body,⟨[],as,none,[],[],none,[]⟩,sc,true,.none)) {Γ:Cfg} (W:Wd B Sp gv Γ) (hn:Γ.names=sc.names) {lev:Nat} (hl:Γ.lev=lev)
  (h1:nr Γ.vars as sc=true) (h2:gz Γ.vars (as.map (·.arg))=true) {x:S} (hx:fK x Γ body=true) {spec:aP} (hd:∀ds σ K KE,spec ds σ K KE→ds.length=as.length)
  (hspec:∀ds σ K KE,spec ds σ K KE→vcS Sp gv x (fun i=>ds.getD i .unb) σ (fun _ M1=>K .none M1) K (fun _ _=>False) (fun _ _=>False) (fun _=>KE)):eI B fa (lev+1) spec:=by
 refine av fun gP gO=>?_;obtain⟨o,fd,ho,hdt,e1,e2,e3,e4,k1,k2,k3,k4,k5,k6,k7⟩:=kA hV;rw[←e3] at h1 hn;refine am (ao h1) fun q1 q2=>?_;refine am (ao q2) fun q2 q3=>?_;refine am (ao q2) fun q2 q4=>?_;refine am (ao q4) fun q4 q5=>?_;refine am (ao q3) fun q3 q6=>?_;have nd:=gB q3;have Vk:VarsC fd Γ.vars:=tc h1;refine gO ?_;refine mr (bind:=fun vs=>(as.map (·.arg)).zip vs) (slots:=fun ds i=>ds.getD i .unb) ho hdt k1 e1 Vk (jf q2) k2 k3 k4 (gn q4) (gn q5) (fun s vs ds P X r ⟨σ,K,KE,k⟩=>?_) hspec fun c hc hh hcw hv hlev ⟨L,hE⟩=>?_
 ·have hlen:=hd _ _ _ _ k;refine⟨.of_eq (iK e2 e4 nd (r.length.trans hlen)),fun y hy=>?_,fun y hy=>?_⟩
  ·have:=(List.of_mem_zip hy).1;refine aj (m5.mp this) fun a ha ea=>?_;have:=j9.mp q6 a ha;rw[ea] at this;exact(bN).symm▸((l8.mp this).imp gK mP)
  ·have:=j9.mp h2 y hy;cases q:(as.map (·.arg))[y.1]? with
   |none=>
    left;have:ds.length≤y.1:=by rw[hlen];simpa using u0.mp q
    show ds.getD y.1 .unb= .unb;rw[n7,u0.mpr this];rfl
   |some n=>
    rw[q] at this;have e:=aO.mp this;right;refine aj (Ar r (by simpa using hlen) nd q) fun v g1 g2=>?_;exact⟨v,e▸g1,g2⟩
 ·have hk:∀n,c.env.kindOf n=Γ.names.lookup n:=fun n=>by rw[hE,hn];rfl
  exact uc x Γ c body W ⟨hc,fun _=>hh,hv,fun n h=>(hk n).trans h,fun _=>⟨hcw,fun n h=>(hk n).trans h⟩,by rw[hl,hlev];exact f3 _⟩ hx
section
set_option maxHeartbeats 4000000
noncomputable def dF (i:Nat):List Stmt:=match fH i with|some d=>d.2.1|none=>[]
noncomputable def jn (i:Nat):List Arg:=match fH i with|some d=>d.1.args|none=>[]
noncomputable def fV (i:Nat):Scope:=match fH i with|some d=>d.2.2|none=>{kind:=.function,names:=[],isGenerator:=false,isCoroutine:=false}
noncomputable def Ie (l:List (String×Nat×Nat)):List (PySem.Str×Nat×Nat):=l.map fun x=>(PySem.Str.ofString x.1,x.2)
noncomputable def Lo:List (PySem.Str×Nat):=([("DIGITS",0),("HEX_DIGITS",1),("SMALL_LETTERS",2),("ID_SIGNS",3),("LONE_SIGNS",4),("BLANKS",5)]:List (String×Nat)).map fun x=>(PySem.Str.ofString x.1,x.2)
noncomputable def cfg (i:Nat) (vars:List (Nat×PySem.Str×Bool)) (lev:Nat) (fns mts news:List (String×Nat×Nat)):Cfg:={vars:=vars,names:=(fV i).names,cw:=true,hd:=true,lev:=lev,fns:=Ie fns,mts:=Ie mts,news:=Ie news,gst:=Lo}
end
structure Own (B:Bs):Prop where
 prog:B.prog=pw
 ca:B.ca=Mine.ca
 seen:∃st,uZ B.K B.mg st true=fu B.w.params
theorem fv {α:Type} {f g:Nat→α} {n:Nat} (e:(List.range n).map f=(List.range n).map g):∀i<n,f i=g i:=fun i hi=>y6.mp e i (B1.mpr hi)
theorem Own.fn (O:Own B) {k i:Nat} {a:Addr} {dv:Value} (h:fG[k]?=some (i,a,dv)) (hd:fH i=some (⟨[],jn i,none,[],[],none,[]⟩,dF i,fV i)):fnV B.K a=some (.stmts (dF i),⟨[],jn i,none,[],[],none,[]⟩,fV i,true,dv):=by
 refine ar O.seen fun st e=>?_;have e1:fG.map (fun t=>fnV B.K t.2.1)=fG.map fun t=>(fH t.1).map fun d=>(FuncBody.stmts d.2.1,d.1,d.2.2,true,t.2.2):=congrArg Seen.fns e;have e2:=y6.mp e1 _ (v5 h);dsimp only at e2;refine er e2 (er hd ?_);rfl
theorem Own.cls (O:Own B) {i:Nat} (hi:i<3):(findIn B.K (.ref (B.ca i)) "__getattribute__",findIn B.K (.ref (B.ca i)) "__getattr__",findIn B.K (.ref (B.ca i)) "__setattr__",plainOver B.K (B.ca i),(List.range 9).map (fun f=>takerIn B.K (B.ca i) (aq f)),findIn B.K (.ref (B.ca i)) "__class__",plainGet B.K (B.ca i) "__class__",mroIn B.K (B.ca i) (.type "object"),keepIn B.K (.ref (B.ca i)),makesIn B.K (B.ca i))=
  (blt "object.__getattribute__",some none,blt "object.__setattr__",true,(List.range 9).map (fun _=>some none),blt "object.__class__",true,some true,true,true):=by
 refine ar O.seen fun st e=>?_;refine er O.ca ?_;have e1:(List.range 3).map (fun i=>(findIn B.K (.ref (Mine.ca i)) "__getattribute__",findIn B.K (.ref (Mine.ca i)) "__getattr__",findIn B.K (.ref (Mine.ca i)) "__setattr__",plainOver B.K (Mine.ca i),(List.range 9).map (fun f=>takerIn B.K (Mine.ca i) (aq f)),findIn B.K (.ref (Mine.ca i)) "__class__",plainGet B.K (Mine.ca i) "__class__",mroIn B.K (Mine.ca i) (.type "object"),keepIn B.K (.ref (Mine.ca i)),makesIn B.K (Mine.ca i)))=
  (List.range 3).map fun _=>(blt "object.__getattribute__",some none,blt "object.__setattr__",true,(List.range 9).map (fun _=>some none),blt "object.__class__",true,some true,true,true):=congrArg Seen.cls e
 exact fv e1 i hi
theorem Own.flds (O:Own B) {i:Nat} (hi:i<4):hasDictIn B.K (B.ca i)=true∧∀f<9,findIn B.K (.ref (B.ca i)) (aq f)=some none:=by
 refine ar O.seen fun st e=>?_;refine er O.ca ?_;have e1:(List.range 4).map (fun i=>(hasDictIn B.K (Mine.ca i),(List.range 9).map fun f=>findIn B.K (.ref (Mine.ca i)) (aq f)))=(List.range 4).map fun _=>(true,(List.range 9).map fun _=>some none):=congrArg Seen.flds e;have:=fv e1 i hi;simp only[B7] at this;exact⟨this.1,fv this.2⟩
theorem KN:∀i<4,∀j<4,Mine.ca i=Mine.ca j→i=j:=by decide
theorem Own.bad (O:Own B):[findIn B.K (.ref 58) "__getattribute__",findIn B.K (.ref 58) "__getattr__",specialIn B.K (.ref 58) "__call__",findIn B.K (.ref 58) "__init__",findIn B.K (.ref 58) "__setattr__",specialIn B.K (.ref 38) "__getattribute__"]=
  [blt "BaseException.__getattribute__",some none,blt "type.__call__",some (some (.ref 55)),blt "object.__setattr__",blt "type.__getattribute__"]:=by
 refine ar O.seen fun st e=>?_;exact congrArg Seen.bad e
theorem Own.badB (O:Own B):[mroIn B.K 58 (.type "BaseException"),mroIn B.K 58 (.ref 58),instIn B.K (.ref 58) (.type "type"),instIn B.K (.ref 58) (.type "tuple")]=[some true,some true,some true,some false]:=by
 refine ar O.seen fun st e=>?_;exact congrArg Seen.badB e
theorem Own.ks (O:Own B):Ks B:=by
 have b:=O.bad;have c:=O.badB;simp only[z8] at b c;have h3:B.ca 3=58:=by rw[O.ca];rfl
 refine⟨fun i hi=>?_,fun i hi=>?_,fun i hi=>?_,fun i hi=>?_,fun i hi f hf=>?_,fun i hi=>(O.flds hi).1,fun i hi f hf=>(O.flds hi).2 f hf,by rw[h3];exact b.1,⟨none,by rw[h3];exact b.2.1⟩,by rw[h3];exact c.1,by rw[O.ca];exact KN⟩
 all_goals
  have h:=O.cls hi;simp only[B7] at h;obtain⟨h1,h2,h3,h4,h5,h6,h7,h8,h9,h10⟩:=h
 ·exact h1
 ·exact h2
 ·exact h3
 ·exact h4
 ·exact fv h5 f hf
theorem Own.kt (O:Own B) (g:B.mg "BadText"=some (.ref (B.ca 3))):KT B:=by
 have c:=O.badB;simp only[z8] at c;have h3:B.ca 3=58:=by rw[O.ca];rfl
 refine ar O.seen fun st e=>?_;have eo:[B.K.lookup 58,B.K.lookup 80,B.K.lookup 130,B.K.lookup 194]=[some nM,some (nL B.w.params),some {cls:=.type "tuple",data:=.seq #[.none]},some {cls:=.type "tuple",data:=.seq #[.int 1 477]}]:=congrArg Seen.objs e;simp only[z8] at eo;refine⟨by rw[h3];exact c.2.2.2.1,by rw[h3];exact congrArg Seen.typ e,by rw[h3];exact c.1,by rw[h3];exact c.2.1,?_,g⟩;refine er h3 ?_;unfold clsIn;refine er eo.1 ?_;rfl
theorem Own.ki (O:Own B):KI B:=by
 refine ar O.seen fun st e=>?_;have k:(List.range 3).map (fun i=>(List.range 3).map fun j=>i==j||kin_not B.K (Mine.ca i) (Mine.ca j))=(List.range 3).map fun _=>(List.range 3).map fun _=>true:=congrArg Seen.kin e;refine⟨fun i hi j hj ne=>?_,fun i hi=>?_,fun i hi=>(O.flds (by lia)).1,fun i hi=>?_,by kernel_rfl,by kernel_rfl,fun i hi=>?_⟩
 ·have:=fv (fv k i hi) j hj;refine er O.ca ?_;rw[j6.mpr ne,Bool.false_or] at this;exact this
 all_goals
  have h:=O.cls hi;simp only[B7] at h;obtain⟨h1,h2,h3,h4,h5,h6,h7,h8,h9,h10⟩:=h
 ·exact h7
 ·exact h6
 ·exact h8
theorem Own.glob (O:Own B) {k:Nat} {n:PySem.Str} {v:Option Value} (h:pU[k]?=some (n,v)):B.mg n=v:=by
 refine ar O.seen fun st e=>?_;have e1:pU.map (fun x=>B.mg x.1)=pU.map (·.2):=congrArg Seen.glo e;exact y6.mp e1 _ (v5 h)
theorem Own.kd (O:Own B):KD B 80:=by
 refine av fun gP gO=>?_;refine ar O.seen fun st e=>?_;have eo:[B.K.lookup 58,B.K.lookup 80,B.K.lookup 130,B.K.lookup 194]=[some nM,some (nL B.w.params),some {cls:=.type "tuple",data:=.seq #[.none]},some {cls:=.type "tuple",data:=.seq #[.int 1 477]}]:=congrArg Seen.objs e;refine gO ?_;simp only[z8] at eo;refine⟨O.glob (k:=6) rfl,rfl,(xI B.w.params).toArray,6,eo.2.1,?_,?_⟩
 ·exact⟨⟨_,_,rfl,rfl⟩,⟨_,_,rfl,rfl⟩,⟨_,_,rfl,rfl⟩,⟨_,_,rfl,rfl⟩,⟨_,_,rfl,rfl⟩,⟨_,_,rfl,rfl⟩,trivial⟩
 ·kernel_rfl
theorem Own.txt (O:Own B) {k:Nat} {n:PySem.Str} {l:List Nat} (h:xW[k]?=some (n,l)):∃x t,B.mg n=some (.str x t)∧x.cps.toList=l:=by
 refine ar O.seen fun st e=>?_;have e1:xW.map (fun x=>Lg (B.mg x.1))=xW.map fun x=>some x.2:=congrArg Seen.str e;have:=y6.mp e1 _ (v5 h);dsimp only at this;generalize B.mg n=o at this;cases o with
 |none=>exact noS this
 |some v=>
  cases v<;>try exact noS this
  exact⟨_,_,rfl,c7 this⟩
theorem Own.meth (O:Own B) {k:Nat} {n:PySem.Str} {a:Addr} (h:pP[k]?=some (n,a)):findIn B.K (.ref 253) n=some (some (.ref a)):=by
 refine ar O.seen fun st e=>?_;have e1:pP.map (fun x=>findIn B.K (.ref 253) x.1)=pP.map fun x=>some (some (.ref x.2)):=congrArg Seen.mth e;exact y6.mp e1 _ (v5 h)
section
set_option maxHeartbeats 4000000
theorem KQ:∃p1 p2 p3 p4 p5 p6 p7 p8 p9 p10 p11 p12 p13 p14:Pos,dF 2=
  [.Expr (.Call (.Attribute (.Name "WasmFault" p1) "__init__" p2) [.Name "self" p3,.Name "why" p4] [] p5) p6,.Assign [.Attribute (.Name "self" p7) "row" p8] (.Name "row" p9) p10,.Assign [.Attribute (.Name "self" p11) "column" p12] (.Name "column" p13) p14]∧(p2.endLine==p5.line)=true:=by
 refine⟨_,_,_,_,_,_,_,_,_,_,_,_,_,_,rfl,?_⟩;rfl
theorem KP:∃p1 p2 p3 p4 p5 p6 p7 p8 p9 p10:Pos,dF 1=
  [.Expr (.Call (.Attribute (.Name "Exception" p1) "__init__" p2) [.Name "self" p3,.Name "why" p4] [] p5) p6,.Assign [.Attribute (.Name "self" p7) "why" p8] (.Name "why" p9) p10]∧(p2.endLine==p5.line)=true:=by
 refine⟨_,_,_,_,_,_,_,_,_,_,rfl,?_⟩;rfl
theorem AY (hV:fnV B.K fa=some (.stmts (dF i),⟨[],as,none,[],[],none,[]⟩,fV i,true,.none)) (hk:(qR (fV i).kind&&(!(fV i).isCoroutine&& !(fV i).isGenerator)&&(fV i).names.all fun x=> !uU (some x.2))=true):
  ∃fd,FnK B.K fa fd (dF i)∧fd.params=⟨[],as,none,[],[],none,[]⟩∧fd.scope=fV i∧fd.defaults= .none∧typeIn B.K (.ref fa)=some (.type "function"):=by
 refine av fun gP gO=>?_;obtain⟨o,fd,ho,hdt,e1,e2,e3,e4,k1,k2,k3,k4,k5,k6,k7⟩:=kA hV;refine am (ao hk) fun q q4=>?_;refine am (ao q) fun q1 q2=>?_;refine am (ao q2) fun q2 q3=>?_;refine gO ?_;refine⟨fd,⟨⟨o,ho,hdt⟩,k1,e1,by rw[e3];exact jf q1,k2,k3,fun x hx z=>?_,by rw[e3];exact gn q2,by rw[e3];exact gn q3,k5⟩,e2,e3,e4,k7⟩;rw[e3] at hx;have:=j9.mp q4 x hx;rw[z] at this;cases this
theorem Own.ke (O:Own B):∃W fI fW fdI fdW,KE B W fI fW fdI fdW:=by
 refine av fun gP gO=>?_;refine Ls (AY (i:=2) (O.fn (k:=1) (i:=2) (a:=55) (dv:=.none) rfl (by kernel_rfl)) (by kernel_rfl)) fun fdI F1 p1 sc1 d1 t1=>?_;refine Ls (AY (i:=1) (O.fn (k:=0) (i:=1) (a:=35) (dv:=.none) rfl (by kernel_rfl)) (by kernel_rfl)) fun fdW F2 p2 sc2 d2 t2=>?_;have h3:B.ca 3=58:=by rw[O.ca];rfl
 have b:=O.bad;have c:=O.badB;refine gO ?_;simp only[z8] at b c;refine ar O.seen fun st e=>?_;have eo:[B.K.lookup 58,B.K.lookup 80,B.K.lookup 130,B.K.lookup 194]=[some nM,some (nL B.w.params),some {cls:=.type "tuple",data:=.seq #[.none]},some {cls:=.type "tuple",data:=.seq #[.int 1 477]}]:=congrArg Seen.objs e;simp only[z8] at eo;have et:(List.range 9).map (fun f=>takerIn B.K 58 (aq f))=(List.range 9).map fun _=>some none:=congrArg Seen.badT e;have ek:(keepIn B.K (.ref 58),readsIn B.K 38 (.type "type"))=(true,true):=congrArg Seen.keep e;simp only[B7] at ek;refine⟨38,55,35,fdI,fdW,?_⟩;refine⟨?_,(O.flds (i:=3) (by lia)).1,by rw[h3];exact b.2.2.1,by rw[h3];exact c.2.2.1,by rw[h3];exact b.2.2.2.1,t1,by rw[h3];exact b.2.2.2.2.1,by rw[h3];exact fv et,by rw[h3];exact ek.1,by rw[h3];exact O.glob (k:=1) rfl,O.glob (k:=0) rfl,O.glob (k:=31) rfl,b.2.2.2.2.2.1,ek.2,congrArg Seen.find e,?_,?_,fun a b' c' d=>?_,fun a b'=>?_,fun n hn=>?_,fun n hn=>?_,?_,?_⟩
 ·refine er h3 ?_;exact⟨"BadText","BadText",57,[.ref 38],true,[],[],false,none,none,some (.ref 42),none,some (.str "BadText" 225),some (.str "BadText" 233),some (.bool true),eo.1⟩
 ·refine av fun gP gO=>?_;obtain⟨q1,q2,q3,q4,q5,q6,q7,q8,q9,q10,q11,q12,q13,q14,e1,e2⟩:=KQ;refine gO ?_;exact⟨q1,q2,q3,q4,q5,q6,q7,q8,q9,q10,q11,q12,q13,q14,e2,e1▸F1⟩
 ·refine av fun gP gO=>?_;obtain⟨q1,q2,q3,q4,q5,q6,q7,q8,q9,q10,e1,e2⟩:=KP;refine gO ?_;exact⟨q1,q2,q3,q4,q5,q6,q7,q8,q9,q10,e2,e1▸F2⟩
 ·exact(iK p1 d1 (gB (by kernel_rfl)) (by kernel_rfl)).trans (by kernel_rfl)
 ·exact(iK p2 d2 (gB (by kernel_rfl)) (by kernel_rfl)).trans (by kernel_rfl)
 ·refine er sc1 (er bN.symm ?_);have:(["self","why","row","column"].map PySem.Str.ofString).all (fun n=>sL (dg n (fV 2).names))=true:=by kernel_rfl
  exact gK (j9.mp this n hn)
 ·refine er sc2 (er bN.symm ?_);have:(["self","why"].map PySem.Str.ofString).all (fun n=>sL (dg n (fV 1).names))=true:=by kernel_rfl
  exact gK (j9.mp this n hn)
 ·refine er sc1 (er bN.symm ?_);exact rA (by kernel_rfl)
 ·refine er sc2 (er bN.symm ?_);exact rA (by kernel_rfl)
noncomputable def gvT (g:Nat):List Nat:=(xW.map (·.2)).getD g []
theorem Dk {K:Frag} {fa:Addr} {x:FnV} (h:fnV K fa=some x) (hx:x.2.2.2.1=true):keepIn K (.ref fa)=true∧typeIn K (.ref fa)=some (.type "function"):=by
 refine av fun gP gO=>?_;obtain⟨b,P,sc,t,dv⟩:=x;subst hx;obtain⟨o,fd,ho,hdt,e1,e2,e3,e4,k1,k2,k3,k4,k5,k6,k7⟩:=kA h;refine gO ?_;exact⟨k5,k7⟩
theorem Own.keep (O:Own B) {k i:Nat} {a:Addr} {dv:Value} (h:fG[k]?=some (i,a,dv)) (hd:(fH i).isSome=true):keepIn B.K (.ref a)=true∧typeIn B.K (.ref a)=some (.type "function"):=by
 refine ar O.seen fun st e=>?_;have e1:fG.map (fun t=>fnV B.K t.2.1)=fG.map fun t=>(fH t.1).map fun d=>(FuncBody.stmts d.2.1,d.1,d.2.2,true,t.2.2):=congrArg Seen.fns e;have e2:=y6.mp e1 _ (v5 h);dsimp only at e2;refine ar (d9.mp hd) fun d hd'=>?_;rw[hd'] at e2;exact Dk e2 rfl
theorem Own.blt (O:Own B):∀n∈kH,B.mg n=none:=by
 intro n hn;have h:∀s∈["len","ord","chr","bytes","sorted","bytearray","range","reversed","isinstance"],B.mg (PySem.Str.ofString s)=none:=by
  intro s hs;simp only[d0,w8,or_false] at hs;rcases hs with rfl|rfl|rfl|rfl|rfl|rfl|rfl|rfl|rfl
  ·exact O.glob (k:=33) rfl
  ·exact O.glob (k:=34) rfl
  ·exact O.glob (k:=35) rfl
  ·exact O.glob (k:=36) rfl
  ·exact O.glob (k:=39) rfl
  ·exact O.glob (k:=37) rfl
  ·exact O.glob (k:=38) rfl
  ·exact O.glob (k:=40) rfl
  ·exact O.glob (k:=32) rfl
 refine aj (m5.mp hn) fun s hs z2_=>?_;subst z2_;exact h s hs
theorem Own.gst (O:Own B):∀e∈Lo,∃x t,B.mg e.1=some (.str x t)∧x.cps.toList=gvT e.2∧(gvT e.2).length≤ah:=by
 intro e he;refine aj (m5.mp he) fun z0_ hs z2_=>?_;obtain⟨n,g⟩:=z0_;subst z2_;simp only[d0,B7,w8,or_false] at hs;rcases hs with ⟨rfl,rfl⟩|⟨rfl,rfl⟩|⟨rfl,rfl⟩|⟨rfl,rfl⟩|⟨rfl,rfl⟩|⟨rfl,rfl⟩
 ·obtain⟨x,t,h1,h2⟩:=O.txt (k:=0) rfl;exact⟨x,t,h1,h2,by decide⟩
 ·obtain⟨x,t,h1,h2⟩:=O.txt (k:=1) rfl;exact⟨x,t,h1,h2,by decide⟩
 ·obtain⟨x,t,h1,h2⟩:=O.txt (k:=2) rfl;exact⟨x,t,h1,h2,by decide⟩
 ·obtain⟨x,t,h1,h2⟩:=O.txt (k:=3) rfl;exact⟨x,t,h1,h2,by decide⟩
 ·obtain⟨x,t,h1,h2⟩:=O.txt (k:=4) rfl;exact⟨x,t,h1,h2,by decide⟩
 ·obtain⟨x,t,h1,h2⟩:=O.txt (k:=5) rfl;exact⟨x,t,h1,h2,by decide⟩
theorem Own.wd (O:Own B)
  (hf:∀e∈fns,∃fa,B.mg (PySem.Str.ofString e.1)=some (.ref fa)∧keepIn B.K (.ref fa)=true∧eI B fa e.2.2 (Sp e.2.1))
  (hm:∀e∈mts,∃fa,findIn B.K (.ref (B.ca (gm e.2.1))) (PySem.Str.ofString e.1)=some (some (.ref fa))∧typeIn B.K (.ref fa)=some (.type "function")∧keepIn B.K (.ref fa)=true∧eI B fa e.2.2 (Sp e.2.1))
  (hn:∀e∈news,e.2.1<3∧B.mg (PySem.Str.ofString e.1)=some (.ref (B.ca e.2.1))∧keepIn B.K (.ref (B.ca e.2.1))=true∧makesIn B.K (B.ca e.2.1)=true∧∃fa,findIn B.K (.ref (B.ca e.2.1)) "__init__"=some (some (.ref fa))∧typeIn B.K (.ref fa)=some (.type "function")∧eI B fa e.2.2 (Sp (lh e.2.1))):
  Wd B Sp gvT (cfg i vars lev fns mts news):=by
 have h3:B.ca 3=58:=by rw[O.ca];rfl
 refine⟨O.ks,O.kt (by rw[h3];exact O.glob (k:=1) rfl),O.ki,⟨80,O.kd⟩,O.ke,O.blt,fun e he=>?_,fun e he=>?_,fun e he=>?_,O.gst⟩
 ·obtain⟨x,hx,rfl⟩:=m5.mp he;exact hf x hx
 ·obtain⟨x,hx,rfl⟩:=m5.mp he;exact hm x hx
 ·obtain⟨x,hx,rfl⟩:=m5.mp he;exact hn x hx
theorem Own.fnOk (O:Own B) {k i:Nat} {a:Addr} (h:fG[k]?=some (i,a,.none)) (hd:fH i=some (⟨[],jn i,none,[],[],none,[]⟩,dF i,fV i)) {lev:Nat} {vars:List (Nat×PySem.Str×Bool)} {fns mts news:List (String×Nat×Nat)} {x:S}
  (hx:(fK x (cfg i vars lev fns mts news) (dF i)&&(nr vars (jn i) (fV i)&&gz vars ((jn i).map (·.arg))))=true) (W:Wd B Sp gvT (cfg i vars lev fns mts news)) {spec:aP} (hl:∀ds σ K KE,spec ds σ K KE→ds.length=(jn i).length)
  (hspec:∀ds σ K KE,spec ds σ K KE→vcS Sp gvT x (fun i=>ds.getD i .unb) σ (fun _ M1=>K .none M1) K (fun _ _=>False) (fun _ _=>False) (fun _=>KE)):eI B a (lev+1) spec:=by
 refine am (ao hx) fun q1 q2=>?_;refine am (ao q2) fun q2 q3=>?_;exact Mo (Γ:=cfg i vars lev fns mts news) (O.fn h hd) W rfl rfl q2 q3 q1 hl hspec
end
section
set_option maxHeartbeats 80000000
noncomputable def qL (b:Bool) (w:World):Option Shared:=openEnds treeTable pw (w.withFollow "special-get-raises" b) 5740
theorem JP (w:World):(qL false w).map (fun s=>(openSeen mz eD (importedModules pw.main.body) (fun _=>true) true s,la s))=some (openGood mz eD,fu w.params):=by
 unfold qL openEnds fencedOpening topFrom;rw[G2,G3,G4,G7,G5,G8,G9];kernel_rfl
theorem JO (w:World):(qL true w).map (fun s=>(openSeen mz eD (importedModules pw.main.body) (fun _=>true) true s,la s))=some (openGood mz eD,fu w.params):=by
 unfold qL openEnds fencedOpening topFrom;rw[G2,G3,G4,G7,G5,G8,G9];kernel_rfl
theorem ws:OpenLaw.wellSaid PySem.Challenge.rw_nm0131_01=true:=by
 refine er PySem.W.Fast.te9446332074065402090 ?_;kernel_rfl
def YPm (w:World) (h:Heap):Prop:=∃K st mg,K.In h∧h.Ns mainGlobals mg∧h.Ns cStatics st∧uZ K mg st true=fu w.params
theorem left:LeftO pw mz eD (fun _=>true) la (fun w=>fu w.params) 5740:=
 byRow2 "special-get-raises" (fun w=>(JP w).trans rfl) fun w=>(JO w).trans rfl
theorem Fe (w:World) (s:Shared) (e:la s=fu w.params):YPm w s.heap:=by
 have h:=congrArg Seen.ns e;have h:(s.heap.isNs mainGlobals&&s.heap.isNs cStatics)=true:=h;refine am (d8.mp h) fun h1 h2=>?_;refine⟨_,_,_,za AP s.heap,.of_isNs h1,.of_isNs h2,?_⟩;refine er e.symm ?_;unfold la;exact er h rfl
theorem YPm.keeps (w:World) (h h':Heap) (y:YPm w h) (k:∀b o,h.get? b=some o→h'.get? b=some o):YPm w h':=by
 refine eA y fun K st mg a b c d=>?_;exact⟨K,st,mg,a.keeps k,b.keeps k,c.keeps k,d⟩
theorem CR:(defOf mz "law").isSome=true:=by kernel_rfl
noncomputable def qQ:DefRec:=((defOf mz "law").get CR).1
theorem zq:defOf mz "law"=some (qQ,[]):=by kernel_rfl
theorem Dh (call:vv mz eD (fun _ _=>True) YPm (OpenLaw.row PySem.Challenge.rw_nm0131_01).toRowW qQ []):PySem.Challenge.rw_nm0131_01.Holds:=by
 refine holds_law ws fun said=>?_;refine JM (q:=mz) (eD:=eD) (Xt:=fun _=>true) (XP:=fun _ _=>True) (Yf:=la) (Ya:=fun w=>fu w.params) (YP:=YPm) (N:=5740) (d:=qQ) (kwd:=[]) left Fe YPm.keeps (fun _ _=>trivial) (fun _ _ _ _ _=>trivial) zq (by kernel_rfl) (by kernel_rfl) (fun s _=>recFacts_nil rfl) (by rfl) said (by kernel_rfl) ⟨rfl,rfl,rfl,rfl,rfl,by decide+kernel⟩ ?_ call
 w_witness2
end
section
set_option maxHeartbeats 4000000
theorem FJ {h:Heap} {a:Addr} {m m':PySem.Str→Option Value} (x:h.Ns a m) (y:h.Ns a m'):m=m':=by
 refine eA x fun o es ep ho hd _ hf=>?_;refine eA y fun o' es' ep' ho' hd' _ hf'=>?_;rw[ho] at ho';cases ho';rw[hd] at hd';cases hd';funext n;exact er (hf n).symm (er (hf' n).symm rfl)
theorem Jq {R:WRecords} {XP:(PySem.Str→Option Value)→Heap→Prop} {w:World} {MW:Shared} {mg mb:PySem.Str→Option Value} {h:Heap} (G:Ground mz eD R XP w MW mg mb h) (Y:YPm w h):∃B:Bs,Own B∧B.base=h∧B.w=w∧B.mg=mg:=by
 refine eA Y fun K st mg' a b c d=>?_;have:=FJ b G.T.g;subst this;exact⟨⟨pw,w,K,h,ca,mg',mb,a,b,G.T.b,G.T.nolimit,G.T.builtins⟩,⟨rfl,rfl,st,d⟩,rfl,rfl,rfl⟩
end
end Mine
namespace Mine
noncomputable def V.ok:V→Bool|.unb=>false|_=>true
noncomputable def S.forB:S→S|.seq (.for_ _ _ _ _ b) _=>b|.seq _ r=>r.forB|_=>.skip
noncomputable def S.whB:S→S|.seq (.while_ _ b) _=>b|.seq _ r=>r.whB|_=>.skip
noncomputable def S.whC:S→X|.seq (.while_ c _) _=>c|.seq _ r=>r.whC|_=>.absent
noncomputable def S.aft:S→S|.seq (.while_ _ _) r=>r|.seq (.for_ _ _ _ _ _) r=>r|.seq _ r=>r.aft|s=>s
noncomputable def S.aft3:S→S|.seq _ (.seq _ (.seq _ r))=>r|s=>s
noncomputable def S.aft2:S→S|.seq _ (.seq _ r)=>r|s=>s
noncomputable def S.aft1:S→S|.seq _ r=>r|s=>s
noncomputable def S.iteA:S→S|.seq (.ite _ a _) _=>a|s=>s
noncomputable def S.iteB:S→S|.seq (.ite _ _ a) _=>a|s=>s
noncomputable def S.aft4:S→S|.seq _ (.seq _ (.seq _ (.seq _ r)))=>r|s=>s
end Mine
namespace Mine.L
variable {Sp:Nat→aP} {L L':List V} {m:Nat→V} {σ M1 J M2:Sto} {Kn Kb Kc:(Nat→V)→Sto→Prop} {Kr:Kx}
section
set_option backward.match.sparseCases false
noncomputable def fr (L:List V):Nat→V:=fun i=>L.getD i .unb
theorem qT (L:List V) (k:Nat):fr L=fr (L++List.replicate k V.unb):=by
 funext i;show L.getD i .unb=(L++List.replicate k V.unb).getD i .unb
 induction L generalizing i with
 |nil=>
  rw[y1,n7 (l:=List.replicate k V.unb),List.getElem?_replicate];exact iteInduction (motive:=fun o=>V.unb=Option.getD o V.unb) (fun _=>rfl) fun _=>rfl
 |cons a L ih=>
  rcases i with _|i
  ·rfl
  ·exact ih i
theorem bh (hi:Nat.blt i L.length=true) (h:L.set i v=L'):upd (fr L) i v=fr L':=by
 subst h;funext j;show(if j=i then v else L.getD j .unb)=(L.set i v).getD j .unb;refine er n7 (er n7 (er List.getElem?_set ?_));have:=m9 hi;by_cases e:j=i
 ·subst e;rw[i7 rfl,i7 rfl,i7 (show j<L.length from this)];rfl
 ·exact er (i3 e) (er (i3 (v8 e)) rfl)
theorem nt (h:(!a)=true):a=false:=by cases a<;>first|rfl|cases h
theorem nf (h:(!a)=false):a=true:=by cases a<;>first|rfl|cases h
section
variable {gv:Nat→List Nat} {KE:(Nat→V)→Ke}
def Ev (Sp:Nat→aP) (gv:Nat→List Nat) (m:Nat→V) (σ:Sto) (e:X) (d:V) (M1:Sto):Prop:=∀K KE,K d M1→vcX Sp gv e m σ K KE
def Et (Sp:Nat→aP) (gv:Nat→List Nat) (m:Nat→V) (σ:Sto) (e:X) (t:Bool):Prop:=∀K KE,K t σ→vcT Sp gv e m σ K KE
def Evs (Sp:Nat→aP) (gv:Nat→List Nat) (m:Nat→V) (σ:Sto) (e:XL) (d:List V) (M1:Sto):Prop:=∀K KE,K d M1→jj Sp gv e m σ K KE
theorem nub {v:V} {P:V→Prop} (h:v.ok=true) (p:P v):(match (generalizing:=false) v with|.unb=>False|d=>P d):=by
 cases v<;>first|exact p|cases h
theorem dub {o:Option AObj} {fs:Nat→V} {P:(Nat→V)→Prop} (h:o=some (.dict fs)) (p:P fs):(match (generalizing:=false) o with|some (.dict fs)=>P fs|_=>False):=by
 subst h;exact p
theorem ak (h:Ev Sp gv (fr L) σ e d M1) (hL:L.set i d=L') (hi:Nat.blt i L.length=true) (k:vcS Sp gv r (fr L') M1 Kn Kr Kb Kc KE):vcS Sp gv (.seq (.assign i e) r) (fr L) σ Kn Kr Kb Kc KE:=
 h (fun d J=>vcS Sp gv r (upd (fr L) i d) J Kn Kr Kb Kc KE) _ (er (bh hi hL) k)
noncomputable def gH:List Nat→List V→List V→Option (List V)
 |[],[],L=>some L
 |i::is,d::ds,L=>match Nat.blt i L.length with|true=>gH is ds (L.set i d)|false=>none
 |_,_,_=>none
theorem mh:∀{ds L L':List V},gH is ds L=some L'→bi is ds (fr L)=some (fr L'):=by
 induction is with
 |nil=>
  intro ds L L' h
  induction ds with
  |nil=>cases h;rfl
  |cons d ds=>exact noS h
 |cons i is ih=>
  intro ds L L' h
  induction ds with
  |nil=>exact noS h
  |cons d ds=>
   replace h:(match Nat.blt i L.length with|true=>gH is ds (L.set i d)|false=>none)=some L':=h;cases q:Nat.blt i L.length with
   |true=>
    rw[q] at h;show bi is ds (upd (fr L) i d)=_;exact er (bh q rfl) (ih h)
   |false=>rw[q] at h;exact noS h
theorem dG (h:gH is ds L=some L') (k:f (fr L')):cS (bi is ds (fr L)) f:=er (mh h) k
theorem aX (h:Ev Sp gv (fr L) σ e (.tup ds) M1) (hL:gH is ds L=some L') (k:vcS Sp gv r (fr L') M1 Kn Kr Kb Kc KE):vcS Sp gv (.seq (.assignT is e) r) (fr L) σ Kn Kr Kb Kc KE:=
 h (fun d J=>zK d fun ds=>cS (bi is ds (fr L)) fun m'=>vcS Sp gv r m' J Kn Kr Kb Kc KE) _ (by show cS _ _;rw[mh hL];exact k)
theorem aE (h:Ev Sp gv m σ e d M1) (k:vcS Sp gv r m M1 Kn Kr Kb Kc KE):vcS Sp gv (.seq (.expr e) r) m σ Kn Kr Kb Kc KE:=
 h (fun d J=>vcS Sp gv r m J Kn Kr Kb Kc KE) _ k
theorem bB (h:Ev Sp gv m σ e d M1) (k:Kr d M1):vcS Sp gv (.seq (.ret e) r) m σ Kn Kr Kb Kc KE:=
 h (fun d J=>Kr d J) _ k
theorem aD (h:Et Sp gv m σ c t) (ht:t=true→vcS Sp gv a m σ (fun m σ=>vcS Sp gv r m σ Kn Kr Kb Kc KE) Kr Kb Kc KE) (hf:t=false→vcS Sp gv b m σ (fun m σ=>vcS Sp gv r m σ Kn Kr Kb Kc KE) Kr Kb Kc KE):vcS Sp gv (.seq (.ite c a b) r) m σ Kn Kr Kb Kc KE:=by
 refine h (fun t J=>match t with|true=>vcS Sp gv a m J (fun m σ=>vcS Sp gv r m σ Kn Kr Kb Kc KE) Kr Kb Kc KE|false=>vcS Sp gv b m J (fun m σ=>vcS Sp gv r m σ Kn Kr Kb Kc KE) Kr Kb Kc KE) _ ?_;cases t
 ·exact hf rfl
 ·exact ht rfl
theorem aV (h:Et Sp gv m σ c t) (ht:t=true→vcS Sp gv a m σ (fun m σ=>vcS Sp gv r m σ Kn Kr Kb Kc KE) Kr Kb Kc KE) (hf:t=false→vcS Sp gv r m σ Kn Kr Kb Kc KE):vcS Sp gv (.seq (.ite c a .skip) r) m σ Kn Kr Kb Kc KE:=aD h ht hf
theorem bw {o:X} {f c a:Nat} {e:X} {r:S} {d:V} {fs:Nat→V} (h:Ev Sp gv m σ e d σ) (ho:Ev Sp gv m σ o (.obj c a) σ) (hd:d.ok=true) (ha:σ a=some (.dict fs)) (k:vcS Sp gv r m (σ.put a (.dict (upd fs f d))) Kn Kr Kb Kc KE):vcS Sp gv (.seq (.setattr o f e) r) m σ Kn Kr Kb Kc KE:=by
 refine h (fun d J=>vcX Sp gv o m J (fun od M2=>zN od f d M2 fun σ=>vcS Sp gv r m σ Kn Kr Kb Kc KE) (KE m)) _ (ho (fun od M2=>zN od f d M2 fun σ=>vcS Sp gv r m σ Kn Kr Kb Kc KE) _ ?_);exact nub (P:=fun d=>match σ a with|some (.dict fs)=>vcS Sp gv r m (σ.put a (.dict (upd fs f d))) Kn Kr Kb Kc KE|_=>False) hd (dub ha k)
theorem gM {o:X} {f c a:Nat} {fs:Nat→V} {v:V} (ho:Ev Sp gv m σ o (.obj c a) σ) (Nk:σ a=some (.dict fs)) (hf:fs f=v) (hv:v.ok=true):Ev Sp gv m σ (.attr o f) v σ:=by
 intro K KE k;exact ho _ _ (dub Nk (nub (P:=fun v=>K v σ) (er hf hv) (er hf k)))
theorem et_and (ha:Et Sp gv m σ a t) (hb:t=true→Et Sp gv m σ b u):Et Sp gv m σ (.and a b) (t&&u):=by
 intro K KE k;refine ha (fun t J=>match t with|true=>vcT Sp gv b m J K KE|false=>K false J) _ ?_;cases t
 ·exact k
 ·exact hb rfl _ _ k
theorem et_or (ha:Et Sp gv m σ a t) (hb:t=false→Et Sp gv m σ b u):Et Sp gv m σ (.or a b) (t||u):=by
 intro K KE k;refine ha (fun t J=>match t with|false=>vcT Sp gv b m J K KE|true=>K true J) _ ?_;cases t
 ·exact hb rfl _ _ k
 ·exact k
theorem et_cmp (ha:Ev Sp gv m σ a d σ) (hb:Ev Sp gv m σ b e σ) (h:fZ σ op d e=some t):Et Sp gv m σ (.cmp op a b) t:=by
 intro K KE k;refine ha _ _ (hb _ _ ?_);exact er h k
theorem aB (ha:Ev Sp gv m σ a M9 σ) (hb:Ev Sp gv m σ b M5 σ) (h:∀K:Kx,K d σ→opV op M9 M5 σ K):Ev Sp gv m σ (.bin op a b) d σ:=
 fun K _ k=>ha _ _ (hb (fun M5 M2=>opV op M9 M5 M2 K) _ (h K k))
theorem eG (ha:Ev Sp gv m σ a d σ) (hl:Ev Sp gv m σ lo l σ) (hh:Ev Sp gv m σ hi u σ) (h:∀K:Kx,K v σ→nA d l u σ K):Ev Sp gv m σ (.slice a lo hi) v σ:=
 fun K _ k=>ha _ _ (hl _ _ (hh (fun h ML=>nA d l h ML K) _ (h K k)))
theorem dZ (ha:Ev Sp gv m σ a d σ) (hi:Ev Sp gv m σ i j σ) (h:∀K:Kx,K v σ→uQ d j σ K):Ev Sp gv m σ (.sub a i) v σ:=
 fun K _ k=>ha _ _ (hi (fun M5 M2=>uQ d M5 M2 K) _ (h K k))
theorem dE (ha:Ev Sp gv m σ a d J) (h:∀K:Kx,K v J→xZ b d J K):Ev Sp gv m σ (.blt b a) v J:=
 fun K _ k=>ha (fun d J=>xZ b d J K) _ (h K k)
theorem au:Evs Sp gv m σ .nil [] σ:=kz
theorem ag (ha:Ev Sp gv m σ a d J) (hr:Evs Sp gv m J r ds M2):Evs Sp gv m σ (.cons a r) (d::ds) M2:=
 fun K _ k=>ha _ _ (hr (fun ds M2=>K (d::ds) M2) _ k)
theorem evp (ha:Ev Sp gv m σ a d σ) (hr:Evs Sp gv m σ r ds σ):Evs Sp gv m σ (.cons a r) (d::ds) σ:=ag ha hr
theorem aK (h:Evs Sp gv m σ xs ds J) (hl:Nat.ble ds.length 100=true):Ev Sp gv m σ (.tup xs) (.tup ds) J:=
 fun K _ k=>h (fun ds J=>ds.length≤100∧K (.tup ds) J) _ ⟨m9 hl,k⟩
theorem vn (hc:Et Sp gv m σ c t) (ha:t=true→Ev Sp gv m σ a d J) (hb:t=false→Ev Sp gv m σ b d J):Ev Sp gv m σ (.ife c a b) d J:=by
 intro K KE k;refine hc (fun t J=>match t with|true=>vcX Sp gv a m J K KE|false=>vcX Sp gv b m J K KE) _ ?_;cases t
 ·exact hb rfl _ _ k
 ·exact ha rfl _ _ k
theorem bD (hc:Et Sp gv m σ c t) (ha:t=true→Ev Sp gv m σ a d σ) (hb:t=false→Ev Sp gv m σ b d σ):Ev Sp gv m σ (.ife c a b) d σ:=vn hc ha hb
theorem eL {i:Nat} {d:V} (h:m i=d) (hd:d.ok=true):Ev Sp gv m σ (.var i) d σ:=fun K _ k=>nub (P:=fun d=>K d σ) (v:=m i) (er h hd) (er h k)
theorem et_cmp2 (ha:Ev Sp gv m σ a d σ) (hb:Ev Sp gv m σ b e σ) (hc:Ev Sp gv m σ c f σ) (h:fZ σ op d e=some t) (h':fZ σ op' e f=some u):Et Sp gv m σ (.cmp2 op op' a b c) (t&&u):=by
 intro K KE k;refine ha _ _ (hb _ _ ?_);refine er h ?_;cases t
 ·exact k
 ·refine hc _ _ ?_;exact er h' k
theorem GG (hx:Evs Sp gv m σ xs ds σ) (h:∀(K:Kx) KE,K (.bool t) σ→Sp g ds σ K KE):Et Sp gv m σ (.call g xs) t:=
 fun K KE k=>hx (fun ds J=>Sp g ds J (fun d M2=>match d with|.bool b=>K b M2|_=>False) KE) _ (h _ KE k)
theorem bt (hx:Evs Sp gv m σ xs ds J) (h:∀(K:Kx) KE,K d M2→Sp g ds J K KE):Ev Sp gv m σ (.call g xs) d M2:=
 fun K KE k=>hx (fun ds J=>Sp g ds J K KE) _ (h K KE k)
theorem vc_mcall {g c a:Nat} {o:X} {xs:XL} {ds:List V} {fs:Nat→V} {K:Kx} {KE:Ke} (ho:Ev Sp gv m σ o (.obj c a) σ) (hc:c=gm g) (ha:σ a=some (.dict fs)) (hx:Evs Sp gv m σ xs ds J) (h:Sp g (.obj c a::ds) J K KE):vcX Sp gv (.mcall g o xs) m σ K KE:=
 ho _ _ ⟨hc,⟨fs,ha⟩,hx (fun ds M2=>Sp g (.obj c a::ds) M2 K KE) _ h⟩
theorem kE (ho:Ev Sp gv m σ o (.obj c a) σ) (hc:c=gm g) (ha:σ a=some (.dict fs)) (hx:Evs Sp gv m σ xs ds J) (h:∀(K:Kx) KE,K d M2→Sp g (.obj c a::ds) J K KE):Ev Sp gv m σ (.mcall g o xs) d M2:=
 fun K KE k=>vc_mcall ho hc ha hx (h K KE k)
theorem Dw (ho:Ev Sp gv m σ o (.obj c a) σ) (hc:c=gm g) (ha:σ a=some (.dict fs)) (hx:Evs Sp gv m σ xs ds σ) (h:∀(K:Kx) KE,K (.bool t) σ→Sp g (.obj c a::ds) σ K KE):Et Sp gv m σ (.mcall g o xs) t:=
 fun K KE k=>ho _ _ ⟨hc,⟨fs,ha⟩,hx (fun ds M2=>Sp g (.obj c a::ds) M2 (fun d ML=>match d with|.bool b=>K b ML|_=>False) KE) _ (h _ _ k)⟩
theorem lub {o:Option AObj} {xs:List V} {P:List V→Prop} (h:o=some (.list xs)) (p:P xs):(match (generalizing:=false) o with|some (.list xs)=>P xs|_=>False):=by
 subst h;exact p
theorem bO {o e:X} {a:Nat} {xs:List V} {d:V} (ho:Ev Sp gv m σ o (.lref a) σ) (ha:σ a=some (.list xs)) (he:Ev Sp gv m σ e d J) (Nn:J a=some (.list xs)) (hl:xs.length<ah):Ev Sp gv m σ (.append o e) .none (J.put a (.list (xs++[d]))):=
 fun K _ k=>ho _ _ ⟨lub (P:=fun _=>True) ha trivial,he (fun M5 M2=>rN (.lref a) M5 M2 K) _ (lub (P:=fun xs=>xs.length<ah∧K .none (J.put a (.list (xs++[d])))) Nn ⟨hl,k⟩)⟩
theorem nI (ha:Ev Sp gv m σ a (.int i) σ):Ev Sp gv m σ (.neg a) (.int (-i)) σ:=
 fun K _ k=>ha (fun d J=>dz d fun i=>K (.int (-i)) J) _ k
theorem gg (ha:Ev Sp gv m σ a d σ) (hb:Ev Sp gv m σ b e σ) (h:fZ σ op d e=some t):Ev Sp gv m σ (.cmp op a b) (.bool t) σ:=by
 intro K KE k;refine ha _ _ (hb _ _ ?_);exact er h k
theorem dJ (ha:Ev Sp gv m σ a (.str w) σ) (hb:Ev Sp gv m σ b (.int i) σ) (hc:Ev Sp gv m σ c (.int j) σ) (k:KE m i j σ):vcS Sp gv (.seq (.raise a b c) r) m σ Kn Kr Kb Kc KE:=
 ha _ _ (hb _ _ (hc (fun Ng ML=>dz Ng fun c=>KE m i c ML) _ k))
theorem gZ (he:Ev Sp gv m σ e d J) (hf:Ev Sp gv m J f d' M2) (hs:jl kind d d' M2=some es)
  (k:fY i (jy d M2) (fun m σ kn kb=>vcS Sp gv b m σ kn Kr kb kn KE) (fun m σ=>vcS Sp gv r m σ Kn Kr Kb Kc KE) es m M2):vcS Sp gv (.seq (.for_ i kind e f b) r) m σ Kn Kr Kb Kc KE:=by
 refine he _ _ (hf _ _ ?_);simp only[hs];exact k
theorem tP (ha:Ev Sp gv m σ a (.str [c]) σ) (h:c<128):Ev Sp gv m σ (.lower a) (.str [eJ c]) σ:=
 fun K _ k=>ha (fun d J=>jk d fun x=>ig x fun c=>c<128∧K (.str [eJ c]) J) _ ⟨h,k⟩
theorem tR (ha:Ev Sp gv m σ a (.str x) σ) (hb:Ev Sp gv m σ b (.str [c]) σ) (h:x.contains c=true):Ev Sp gv m σ (.index a b) (.int (bv c x 0)) σ:=
 fun K _ k=>ha _ _ ⟨trivial,hb (fun M5 M2=>jk M5 fun y=>ig y fun c=>x.contains c=true∧K (.int (bv c x 0)) M2) _ ⟨h,k⟩⟩
theorem et_not (ha:Et Sp gv m σ a t):Et Sp gv m σ (.not a) (!t):=fun K _ k=>ha (fun t J=>K (!t) J) _ k
end
theorem mU (l i:Nat):di l (i:Int)=min i l:=i3 (r8.mpr (g9 _))
theorem tu {α:Type} (l:List α) (b:Nat):l.take (min b l.length)=l.take b:=List.take_eq_take_iff.mpr (by rw[Nat.min_assoc,Nat.min_self])
theorem tX {α:Type} {l:List α} {n:Nat} (a:Nat) (h:l.length≤n):l.drop (min a n)=l.drop a:=by
 rcases Nat.le_total a n with z|z
 ·rw[Nat.min_eq_left z]
 ·exact er (Nat.min_eq_right z) (er (H6 h) (er (H6 (b9 h z)) rfl))
theorem qZ {α:Type} (l:List α) (a b:Nat):cut l (some (a:Int)) (some (b:Int))=(l.drop a).take (b - a):=by
 show(l.take (di l.length (b:Int))).drop (di l.length (a:Int))=_;rw[mU,mU,tu,tX a (List.length_take_le' ..),List.drop_take]
theorem Mu {α:Type} (l:List α) (a:Nat):cut l (some (a:Int)) none=l.drop a:=by
 show(l.take l.length).drop (di l.length (a:Int))=_;rw[mU,List.take_length,tX a (f3 _)]
theorem Bm {α:Type} (l:List α) (b:Nat):cut l none (some (b:Int))=l.take b:=by
 show l.take (di l.length (b:Int))=_;rw[mU,tu]
section
variable {gv:Nat→List Nat}
theorem mS {a lo:X} {x:List Nat} {n:Nat} (ha:Ev Sp gv m σ a (.str x) σ) (hl:Ev Sp gv m σ lo (.int n) σ):Ev Sp gv m σ (.slice a lo .absent) (.str (x.drop n)) σ:=by
 refine eG ha hl kz fun K k=>?_;rw[←Mu] at k;exact k
theorem wV {a hi:X} {x:List Nat} {n:Nat} (ha:Ev Sp gv m σ a (.str x) σ) (hl:Ev Sp gv m σ hi (.int n) σ):Ev Sp gv m σ (.slice a .absent hi) (.str (x.take n)) σ:=by
 refine eG ha kz hl fun K k=>?_;rw[←Bm] at k;exact k
theorem gd {a lo hi:X} {x:List Nat} {n k:Nat} (ha:Ev Sp gv m σ a (.str x) σ) (hl:Ev Sp gv m σ lo (.int n) σ) (hh:Ev Sp gv m σ hi (.int k) σ):Ev Sp gv m σ (.slice a lo hi) (.str ((x.drop n).take (k - n))) σ:=by
 refine eG ha hl hh fun K k=>?_;rw[←qZ] at k;exact k
theorem IB {α:Type} {xs:List α} {i:Int} {x:α} {f:α→Prop} (h:(idx xs.length i).bind (xs[·]?)=some x) (k:f x):atK xs i f:=by unfold atK;rw[h];exact k
theorem AC (h:cb σ d=some xs) (k:f xs):jm σ d f:=by unfold jm;rw[h];exact k
theorem nC {α:Type} {d:V} {xs:List V} {f:List V→Option α} (h:cb σ d=some xs):kS σ d f=f xs:=by unfold kS;rw[h]
theorem xt (h:(cb σ d).bind bS=some is) (k:f is):lY σ d f:=by unfold lY;rw[h];exact k
theorem xa {w:List Nat} {n c:Nat} (h:w[n]?=some c) {K:Kx} (k:K (.str [c]) σ):uQ (.str w) (.int n) σ K:=by
 refine ar (i5.mp h) fun h1 h2=>?_;have e:(idx w.length (n:Int)).bind (w[·]?)=some c:=by
  unfold idx;exact er (i7 (g9 _)) (er (i7 (show((n:Nat):Int).toNat<w.length from h1)) h)
 exact IB e k
theorem eO {a i:X} {x:List Nat} {n c:Nat} (ha:Ev Sp gv m σ a (.str x) σ) (hi:Ev Sp gv m σ i (.int n) σ) (h:x[n]?=some c):Ev Sp gv m σ (.sub a i) (.str [c]) σ:=dZ ha hi fun _ k=>xa h k
end
end
noncomputable def cP (x:List Nat) (k:Nat):Bool:=decide (x[k]?=some 10)||(decide (x[k]?=some 13)&&decide (x[k+1]?≠some 10))
noncomputable def plc (x:List Nat):Nat→Nat×Int
 |0=>(1,-1)
 |n+1=>match cP x n with|true=>((plc x n).1+1,n)|false=>plc x n
noncomputable def aY (x:List Nat) (n:Nat):Int:=((plc x n).1:Nat)
noncomputable def bI (x:List Nat) (n:Nat):Int:=n - (plc x n).2
noncomputable def mC (x:List Nat) (n fl:Nat):Nat→V:=fr [.str x,.int n,.int (aY x n),.int (bI x n),.lref fl]
noncomputable def lx (σ:Sto) (d:Nat) (x:List Nat) (n fl:Nat):Sto:=σ.put d (.dict (mC x n fl))
theorem aM (σ:Sto) (a:Nat) (o o':AObj):(σ.put a o).put a o'=σ.put a o':=by
 funext b;unfold Sto.put
 split<;>rfl
theorem dX:lx σ d x n fl d=some (.dict (mC x n fl)):=ai ..
def Ext (σ M1:Sto):Prop:=∀a,σ a≠none→M1 a=σ a
inductive spHere (ds:List V) (σ:Sto) (K:Kx) (KE:Ke):Prop
 |mk (d:_) (fs:_) (x:_) (n:_) (h1:ds=[.obj 0 d]) (h2:σ d=some (.dict fs)) (h3:fs 0= .str x) (h4:fs 1= .int (n:Nat)) (h5:K (.str ((x.drop n).take 1)) σ):spHere ds σ K KE
inductive spStarts (ds:List V) (σ:Sto) (K:Kx) (KE:Ke):Prop
 |mk (d:_) (fs:_) (x:_) (n:_) (w:_) (h1:ds=[.obj 0 d,.str w]) (h2:σ d=some (.dict fs)) (h3:fs 0= .str x) (h4:fs 1= .int (n:Nat)) (h5:K (.bool (decide ((x.drop n).take w.length=w))) σ):spStarts ds σ K KE
inductive spFail (ds:List V) (σ:Sto) (K:Kx) (KE:Ke):Prop
 |mk (M4:_) (d:_) (x:_) (n:_) (fl:_) (w:_) (h1:ds=[.obj 0 d,.str w]) (h2:σ=lx M4 d x n fl) (h3:KE (aY x n) (bI x n) σ):spFail ds σ K KE
inductive spStep (ds:List V) (σ:Sto) (K:Kx) (KE:Ke):Prop
 |mk (M4:_) (d:_) (x:_) (n:_) (fl:_) (k:_) (h1:(ds=[.obj 0 d]∧k=1∨ds=[.obj 0 d,.int (k:Nat)])) (h2:σ=lx M4 d x n fl) (h3:n+k≤x.length) (h4:k≤2) (h5:K .none (lx M4 d x (n+k) fl)):spStep ds σ K KE
section
variable {gv:Nat→List Nat} {KE:(Nat→V)→Ke} {d n fl:Nat} {x:List Nat}
theorem aU (f:Nat) (hf:mC x n fl f=v) (hv:v.ok=true):Ev Sp gv (fr (.obj 0 d::L)) (lx σ d x n fl) (.attr (.var 0) f) v (lx σ d x n fl):=
 gM (fun _ _ h=>h) dX hf hv
theorem IK {ds:List V} {K:Kx} {KE:Ke} (h:spHere ds σ K KE):vcS Sp gv Cd (fr ds) σ (fun _ M1=>K .none M1) K (fun _ _=>False) (fun _ _=>False) (fun _=>KE):=by
 obtain⟨d,fs,x,n,rfl,Nk,h0,h1,k⟩:=h;have A:Ev Sp gv (fr [.obj 0 d]) σ (.attr (.var 0) 1) (.int n) σ:=gM (fun _ _ h=>h) Nk h1 rfl;refine bB (eG (gM (fun _ _ h=>h) Nk h0 rfl) A (aB A kz fun _ k=>k) fun _ k=>?_) k;show nA (.str x) (.int n) (.int ((n+1:Nat):Int)) _ _;rw[←j7 (n:=n) (m:=1),←qZ] at k;exact k
theorem Bz {ds:List V} {K:Kx} {KE:Ke} (h:spStarts ds σ K KE):vcS Sp gv vV (fr ds) σ (fun _ M1=>K .none M1) K (fun _ _=>False) (fun _ _=>False) (fun _=>KE):=by
 obtain⟨d,fs,x,n,w,rfl,Nk,h0,h1,k⟩:=h;refine bB (gg (e:=.str w) (eG (v:=.str ((x.drop n).take w.length)) (gM (fun _ _ h=>h) Nk h0 rfl) (gM (fun _ _ h=>h) Nk h1 rfl) (aB (gM (fun _ _ h=>h) Nk h1 rfl) kz fun _ k=>k) fun _ k=>?_) kz rfl) k;show nA (.str x) (.int n) (.int ((n+w.length:Nat):Int)) _ _;rw[←j7 (n:=n) (m:=w.length),←qZ] at k;exact k
theorem IL {ds:List V} {K:Kx} {KE:Ke} (h:spFail ds σ K KE):vcS Sp gv Ce (fr ds) σ (fun _ M1=>K .none M1) K (fun _ _=>False) (fun _ _=>False) (fun _=>KE):=by
 obtain⟨M4,d,x,n,fl,w,rfl,rfl,k⟩:=h;exact dJ (w:=w) kz (aU 2 rfl rfl) (aU 3 rfl rfl) k
theorem xM (h:x[n]?=some c):x.drop n=c::x.drop (n+1):=by
 rw[←(i5.mp h).2];exact List.drop_eq_getElem_cons (i5.mp h).1
theorem LU:(x.drop n).take 1=match x[n]? with|some c=>[c]|none=>[]:=by
 cases h:x[n]? with
 |none=>rw[H6 (u0.mp h)];rfl
 |some c=>rw[xM h];rfl
theorem Ap (h:x[n]?=some c):(decide ([c]=[10])||(decide ([c]=[13])&& !decide ((x.drop (n+1)).take 1=[10])))=cP x n:=by
 unfold cP;refine er h (er LU ?_);cases h2:x[n+1]?<;>simp
theorem AE (h:cP x n=true):aY x (n+1)=aY x n+1∧bI x (n+1)=1:=by
 unfold aY bI;rw[plc,h];dsimp only;exact⟨rfl,by lia⟩
theorem Mk (h:cP x n=true):upd (upd (upd (mC x n fl) 1 (.int (n+1))) 2 (.int (aY x n+1))) 3 (.int 1)=mC x (n+1) fl:=by
 unfold mC;refine er ((AE h).1) (er ((AE h).2) (er (bh rfl rfl) (er (bh rfl rfl) (er (bh rfl rfl) ?_))));rfl
theorem vb (h:cP x n=false):aY x (n+1)=aY x n∧bI x (n+1)=bI x n+1:=by
 unfold aY bI;rw[plc,h];dsimp only;exact⟨rfl,by lia⟩
theorem Ml (h:cP x n=false):upd (upd (mC x n fl) 1 (.int (n+1))) 3 (.int (bI x n+1))=mC x (n+1) fl:=by
 unfold mC;refine er ((vb h).1) (er ((vb h).2) (er (bh rfl rfl) (er (bh rfl rfl) ?_)));rfl
theorem LV (h8:Sp 8=spHere) (hc:n<x.length) (k:∀sg,kn (fr [.obj 0 d,many,turn,sg]) (lx σ d x (n+1) fl)):
  vcS Sp gv iu.forB (fr [.obj 0 d,many,turn,sg]) (lx σ d x n fl) kn Kr kb kn KE:=by
 obtain⟨c,hc⟩:∃c,x[n]?=some c:=⟨_,g7 hc⟩;refine ak (dZ (aU 0 rfl rfl) (aU 1 rfl rfl) fun _ k=>xa hc k) rfl rfl ?_;refine bw (aB (aU 1 rfl rfl) kz fun _ k=>k) kz rfl dX ?_;simp only[lx,aM];have A (f:Nat) {v:V} (hf:upd (mC x n fl) 1 (.int (n+1)) f=v) (hv:v.ok=true):Ev Sp gv (fr [.obj 0 d,many,turn,.str [c]]) (σ.put d (.dict (upd (mC x n fl) 1 (.int (n+1))))) (.attr (.var 0) f) v _:=gM (fun _ _ h=>h) (ai ..) hf hv;refine aD (et_or (et_cmp kz kz rfl) fun _=>et_and (et_cmp kz kz rfl) fun _=>et_cmp (kE kz rfl (ai ..) au fun K KE k=>h8▸⟨d,_,x,n+1,rfl,ai ..,rfl,rfl,k⟩) kz rfl) (fun t=>?_) fun t=>?_
 ·rw[Ap hc] at t;refine bw (aB (A 2 rfl rfl) kz fun _ k=>k) kz rfl (ai ..) ?_;refine bw kz kz rfl (ai ..) ?_;rw[aM,aM,Mk t];exact k _
 ·rw[Ap hc] at t;refine bw (aB (A 3 rfl rfl) kz fun _ k=>k) kz rfl (ai ..) ?_;rw[aM,Ml t];exact k _
theorem xA {L:List V} (k:Nat) {p:(Nat→V)→Prop} (h:p (fr (L++List.replicate k V.unb))):p (fr L):=qT L k▸h
noncomputable def nZ:List V→List V|[o]=>[o,.int 1]|l=>l
theorem IG (h8:Sp 8=spHere) {ds:List V} {K:Kx} {KE:Ke} (h:spStep ds σ K KE):vcS Sp gv iu (fr (nZ ds)) σ (fun _ M1=>K .none M1) K (fun _ _=>False) (fun _ _=>False) (fun _=>KE):=by
 obtain⟨M4,d,x,n,fl,k,hds,rfl,hn,hk,kk⟩:=h;have e:nZ ds=[.obj 0 d,.int k]:=by
  rcases hds with ⟨rfl,rfl⟩|rfl<;>rfl
 refine er e ?_;refine xA 2 (p:=fun m=>vcS Sp gv iu m _ _ _ _ _ _) ?_;have T:∀(es:List V) (L:List V) (n:Nat),(∃tn sg,L=[.obj 0 d,.int k,tn,sg])→n+es.length≤x.length→K .none (lx M4 d x (n+es.length) fl)→fY 2 (fun _=>True) (fun m σ kn kb=>vcS Sp gv iu.forB m σ kn K kb kn fun _=>KE) (fun m σ=>vcS Sp gv .skip m σ (fun _ M1=>K .none M1) K (fun _ _=>False) (fun _ _=>False) (fun _=>KE)) es (fr L) (lx M4 d x n fl):=by
  intro es
  induction es with
  |nil=>exact fun L n _ _ k=>k
  |cons e es ih=>
   rintro L n ⟨tn,sg,rfl⟩ hl k;simp only[c6] at hl k
   first|rw[bx]|rw[bH]
   refine er (bh rfl rfl) ?_;refine LV h8 (by lia) fun sg=>⟨trivial,ih _ _ ⟨_,_,rfl⟩ (by lia) ?_⟩;rw[g5,l5 1];exact k
 refine gZ kz kz (es:=(List.range k).map fun(k:Nat)=>V.int (k:Int)) ?_ (T _ _ _ ⟨_,_,rfl⟩ (by simpa using hn) (by simpa using kk));show(if _ then _ else _)=_;refine er (i7 (by unfold ah;lia)) ?_;rfl
end
noncomputable def Iv:List Nat:=[48,49,50,51,52,53,54,55,56,57]
noncomputable def d16:List Nat:=[48,49,50,51,52,53,54,55,56,57,97,98,99,100,101,102]
noncomputable def bU:List Nat:=[48,49,50,51,52,53,54,55,56,57,97,98,99,100,101,102,65,66,67,68,69,70]
noncomputable def sP:List Nat:=[97,98,99,100,101,102,103,104,105,106,107,108,109,110,111,112,113,114,115,116,117,118,119,120,121,122]
noncomputable def dId:List Nat:=[48,49,50,51,52,53,54,55,56,57,97,98,99,100,101,102,103,104,105,106,107,108,109,110,111,112,113,114,115,116,117,118,119,120,121,122,65,66,67,68,69,70,71,72,73,74,75,76,77,78,79,80,81,82,83,84,85,86,87,88,89,90,33,35,36,37,38,39,42,43,45,46,47,58,60,61,62,63,64,92,94,95,96,124,126]
noncomputable def gp:List Nat:=[44,59,91,93,123,125]
noncomputable def dBl:List Nat:=[32,9,10,13]
noncomputable def gvL:Nat→List Nat:=fun g=>[Iv,bU,sP,dId,gp,dBl].getD g []
noncomputable def dy:Option Int→V|none=>.none|some i=>.int i
noncomputable def eR (c:Nat):Int:=bv (eJ c) bU 0
noncomputable def wgo (b:Int) (ds:List Nat):List Nat→Int→Bool→Option Int
 |[],f,w=>match w with|true=>some f|false=>none
 |c::l,f,w=>match decide (c=95) with
  |true=>(match w with|true=>wgo b ds l f false|false=>none)
  |false=>match ds.contains c with|true=>wgo b ds l (f*b+eR c) true|false=>none
theorem rc {b:Int} {ds:List Nat} {f:Int} {w:Bool}:wgo b ds [] f w=match w with|true=>some f|false=>none:=rfl
theorem ft {b:Int} {ds:List Nat} {c:Nat} {l:List Nat} {f:Int} {w:Bool}:wgo b ds (c::l) f w=match decide (c=95) with
  |true=>(match w with|true=>wgo b ds l f false|false=>none)
  |false=>match ds.contains c with|true=>wgo b ds l (f*b+eR c) true|false=>none:=rfl
noncomputable def fe (b:Nat):List Nat:=if b=16 then bU else Iv
noncomputable def dC (b:Nat) (x:List Nat):Option Int:=wgo b (fe b) x 0 false
noncomputable def iO:aP:=fun ds σ K KE=>∃x b,ds=[.str x,.int (b:Nat)]∧(b=10∨b=16)∧K (dy (dC b x)) σ
theorem tO:∀c∈bU,c<128∧bU.contains (eJ c)=true∧d16.contains (eJ c)=true∧bv (eJ c) d16 0=bv (eJ c) bU 0:=by decide
theorem GM:∀c∈Iv,c∈bU:=by decide
theorem oj {b c:Nat} (h:(fe b).contains c=true):c∈bU:=by
 have h:=d6.mp h;unfold fe at h
 split at h
 ·exact h
 ·exact GM c h
theorem AN {f:Int} {b:Nat} (hb:b=10∨b=16):PySem.IntMulOk f b:=PySem.IntMulOk.of_right (by rcases hb with rfl|rfl<;>decide)
section
variable {KE:(Nat→V)→Ke}
theorem vz {b:Nat} (hb:b=10∨b=16) {ds:List Nat} (hd:ds=fe b) {x0:V} {K:Kx} {KE:Ke}:∀(x:List Nat) (f:Int) (w:Bool) (sg:V),K (dy (wgo b ds x f w)) σ→
  fY 5 (fun _=>True) (fun m σ kn kb=>vcS Sp gvL gS.forB m σ kn K kb kn fun _=>KE) (fun m σ=>vcS Sp gvL gS.aft m σ (fun _ M1=>K .none M1) K (fun _ _=>False) (fun _ _=>False) (fun _=>KE)) (x.map fun c=>.str [c]) (fr [x0,.int b,.str ds,.int f,.bool w,sg]) σ:=by
 intro x
 induction x with
 |nil=>
  intro f w sg k;rw[List.map_nil];first|rw[bx]|rw[bH]
  refine bB (vn (t:=w) (d:=dy (wgo b ds [] f w)) kz (fun t=>?_) fun t=>?_) k
  ·subst t;exact kz
  ·subst t;exact kz
 |cons c x ih=>
  intro f w sg k;simp only[j3]
  first|rw[bx]|rw[bH]
  refine er (bh rfl rfl) ?_
  first|rw[ft] at k|rw[rc] at k
  have e:decide ([c]=[95])=decide (c=95):=by simp
  refine aD (et_cmp kz kz rfl) (fun t=>?_) fun t=>?_
  ·rw[e] at t;rw[t] at k;refine aD (et_not (t:=w) kz) (fun t=>?_) fun t=>?_
   ·have:w=false:=by simpa using t
    subst this;exact k
   ·have:w=true:=by simpa using t
    subst this;exact ak kz rfl rfl ⟨trivial,ih _ _ _ k⟩
  ·rw[e] at t;rw[t] at k;refine aD (t:=ds.contains c) (et_cmp kz kz rfl) (fun t=>?_) fun t=>?_
   ·rw[t] at k;have q:=tO c (oj (hd▸t));refine ak (aB (aB kz kz fun _ k=>⟨AN hb,k⟩) (tR (x:=bU) kz (tP kz q.1) q.2.1) fun _ k=>k) rfl rfl (ak kz rfl rfl ⟨trivial,ih _ _ _ k⟩)
   ·rw[t] at k;exact k
theorem Ep {ds:List V} {K:Kx} {KE:Ke} (h:iO ds σ K KE):vcS Sp gvL gS (fr ds) σ (fun _ M1=>K .none M1) K (fun _ _=>False) (fun _ _=>False) (fun _=>KE):=by
 refine aZ h fun x b z2_ hb k=>?_;subst z2_;refine xA 4 (p:=fun m=>vcS Sp gvL gS m _ _ _ _ _ _) ?_;refine aX (L':=[.str x,.int b,.str (fe b),.int 0,.bool false,.unb]) (ds:=[.str (fe b),.int 0,.bool false]) (aK (ag (vn (et_cmp kz kz rfl) (fun t=>?_) fun t=>?_) (ag kz (ag kz au))) rfl) rfl (gZ kz kz (es:=x.map fun c=>.str [c]) rfl (vz hb rfl x 0 false .unb k))
 ·rcases hb with rfl|rfl
  ·exact noT t
  ·exact kz
 ·rcases hb with rfl|rfl
  ·exact kz
  ·simp at t
end
def Wlk (Sp:Nat→aP) (s:S) (ds:List V) (σ:Sto) (K:Kx) (KE:Ke):Prop:=vcS Sp gvL s (fr ds) σ (fun _ M1=>K .none M1) K (fun _ _=>False) (fun _ _=>False) (fun _=>KE)
theorem bk {Sp:Nat→aP} {s:S} {ds:List V} {σ:Sto} {K:Kx} {KE:Ke} (k:Nat) (h:Wlk Sp s (ds++List.replicate k V.unb) σ K KE):Wlk Sp s ds σ K KE:=by
 unfold Wlk at*;exact er (qT ds k) h
noncomputable def bz (x:List Nat):Bool:=decide ([43]=x.take 1)||(decide ([45]=x.take 1)||false)
noncomputable def fL (x:List Nat):List Nat:=match bz x with|true=>x.drop 1|false=>x
noncomputable def mB (x:List Nat):Option Int:=match decide ((fL x).take 2=[48,120]) with|true=>dC 16 ((fL x).drop 2)|false=>dC 10 (fL x)
noncomputable def ez (x:List Nat):Option Int:=match mB x with|none=>none|some i=>match decide (x.take 1=[45]) with|true=>some (-i)|false=>some i
noncomputable def zZ:aP:=fun ds σ K KE=>∃x,ds=[.str x]∧K (dy (ez x)) σ
inductive spWhole' (ds:List V) (σ:Sto) (K:Kx) (KE:Ke):Prop
 |mk (x:_) (b:_) (h1:ds=[.str x,.int (b:Nat)]) (h2:(b=10∨b=16)) (h3:x.length<ah) (h4:K (dy (dC b x)) σ):spWhole' ds σ K KE
section
variable {KE:(Nat→V)→Ke}
theorem tD:fZ σ .isN (dy o) .none=some o.isNone:=by cases o<;>rfl
theorem yQ:fZ σ .notN (dy o) .none=some (!o.isNone):=by cases o<;>rfl
theorem mM:(dy o).ok=true:=by cases o<;>rfl
theorem LJ (h3:Sp 3=iO) {ds:List V} {K:Kx} {KE:Ke} (h:zZ ds σ K KE):Wlk Sp uB ds σ K KE:=by
 refine aj h fun x z1_ k=>?_;subst z1_;refine bk 2 ?_;refine ak (d:=.str (fL x)) (bD (t:=bz x) (et_cmp (wV (x:=x) (n:=1) kz kz) (aK kz rfl) rfl) (fun t=>?_) fun t=>?_) rfl rfl ?_
 ·unfold fL;rw[t];exact mS kz kz
 ·unfold fL;rw[t];exact kz
 refine ak (d:=dy (mB x)) (bD (t:=decide ((fL x).take 2=[48,120])) (et_cmp (wV (n:=2) kz kz) kz rfl) (fun t=>?_) fun t=>?_) rfl rfl ?_
 ·unfold mB;rw[t];exact bt (ag (mS (n:=2) kz kz) (ag kz au)) fun K KE k=>h3▸⟨_,16,rfl,.inr rfl,k⟩
 ·unfold mB;rw[t];exact bt (ag kz (ag kz au)) fun K KE k=>h3▸⟨_,10,rfl,.inl rfl,k⟩
 refine bB (bD (et_cmp (eL rfl mM) kz tD) (fun t=>?_) fun t=>?_) k
 ·unfold ez;rw[A7.mp t];exact kz
 ·refine ar (d9.mp (Option.isNone_eq_false_iff.mp t)) fun i hi=>?_;refine er hi ?_;unfold ez;refine er hi ?_;refine bD (t:=decide (x.take 1=[45])) (et_cmp (wV (n:=1) kz kz) kz rfl) (fun t=>?_) fun t=>?_
  ·exact er t (nI kz)
  ·exact er t kz
noncomputable def fp (b:Int) (ds:List Nat):List Nat→Int→Option Int
 |[],f=>some f
 |c::l,f=>match ds.contains c with|true=>fp b ds l (f*b+eR c)|false=>none
noncomputable def fO (b:Int) (ds:List Nat):List (List Nat)→Int→Option Int
 |[],f=>some f
 |p::ps,f=>match decide (p=[]) with|true=>none|false=>match fp b ds p f with|some f=>fO b ds ps f|none=>none
theorem uH {b:Int} {ds:List Nat} {c:Nat} {l:List Nat} {f:Int}:fp b ds (c::l) f=match ds.contains c with|true=>fp b ds l (f*b+eR c)|false=>none:=rfl
theorem sj {b:Int} {ds p:List Nat} {ps:List (List Nat)} {f:Int}:fO b ds (p::ps) f=match decide (p=[]) with|true=>none|false=>match fp b ds p f with|some f=>fO b ds ps f|none=>none:=rfl
theorem Ct (h95:ds.contains 95=false):∀(x:List Nat) (f:Int) (p:List Nat) (ps:List (List Nat)),bL 95 x=p::ps→
  (match fp b ds p f with|some f=>fO b ds ps f|none=>none)=wgo b ds x f true∧fO b ds (p::ps) f=wgo b ds x f false:=by
 intro zz
 induction zz with
 |nil=>
  intro f p ps h;cases h;exact⟨rfl,rfl⟩
 |cons c r ih=>
  intro f p ps h;refine cu (eg 95 r) fun p' ps' h'=>?_;refine er ft (er ft ?_);by_cases e:c=95
  ·rw[gA e] at h;refine am (j2 h) fun z0_ z1_=>?_;subst z0_;subst z1_;exact er h' (er (f9 e) ⟨(ih f p' ps' h').2,rfl⟩)
  ·rw[fb e h'] at h;refine am (j2 h) fun z0_ z1_=>?_;subst z0_;subst z1_;refine er (c9 e) ?_;have e1:fp b ds (c::p') f=match ds.contains c with|true=>fp b ds p' (f*b+eR c)|false=>none:=rfl
   have e2:fO b ds ((c::p')::ps') f=match fp b ds (c::p') f with|some f=>fO b ds ps' f|none=>none:=rfl
   simp only[e2,e1,←((ih (f*b+eR c) p' _ h').1)];cases ds.contains c<;>exact⟨rfl,rfl⟩
theorem yO {b:Nat} {t:List Nat} (hb:b=10∨b=16) {u d:V} {ps pt:V} {kn kb:(Nat→V)→Sto→Prop} {K:Kx} {KE:Ke}:∀(x:List Nat) (f:Int) (sg:V),(match fp b (fe b) x f with|some f=>∀sg,kn (fr [.str t,.int b,ps,.int f,pt,sg]) σ|none=>K .none σ)→
  fY 5 (fun _=>True) (fun m σ kn kb=>vcS Sp gvL fS.forB.forB m σ kn K kb kn fun _=>KE) kn (x.map fun c=>.str [c]) (fr [.str t,.int b,ps,.int f,pt,sg]) σ:=by
 intro x
 induction x with
 |nil=>exact fun f sg k=>k sg
 |cons c x ih=>
  intro f sg k;simp only[j3]
  first|rw[bx]|rw[bH]
  refine er (bh rfl rfl) ?_;rw[uH] at k;refine aD (t:= !(fe b).contains c) (et_cmp (e:=.str (fe b)) kz ?_ rfl) (fun t=>?_) fun t=>?_
  ·rcases hb with rfl|rfl<;>exact kz
  ·have t:(fe b).contains c=false:=by simpa using t
   simp only[t] at k;exact k
  ·have t:(fe b).contains c=true:=by simpa using t
   simp only[t] at k;have q:=tO c (oj t);refine ak (d:=.int (f*b+eR c)) (aB (aB kz kz fun _ k=>⟨AN hb,k⟩) (tR (x:=d16) kz (tP kz q.1) q.2.2.1) fun _ k=>?_) rfl rfl ⟨trivial,ih _ _ k⟩;unfold eR at k;rw[←q.2.2.2] at k;exact k
theorem vZ {b:Nat} {t:List Nat} (hb:b=10∨b=16) {ps:V} {K:Kx} {KE:Ke}:∀(x:List (List Nat)) (f:Int) (pt sg:V),K (dy (fO b (fe b) x f)) σ→
  fY 4 (fun _=>True) (fun m σ kn kb=>vcS Sp gvL fS.forB m σ kn K kb kn fun _=>KE) (fun m σ=>vcS Sp gvL fS.aft m σ (fun _ M1=>K .none M1) K (fun _ _=>False) (fun _ _=>False) (fun _=>KE)) (x.map .str) (fr [.str t,.int b,ps,.int f,pt,sg]) σ:=by
 intro x
 induction x with
 |nil=>exact fun f pt sg k=>k
 |cons p x ih=>
  intro f pt sg k;simp only[j3]
  first|rw[bx]|rw[bH]
  refine er (bh rfl rfl) ?_;rw[sj] at k;refine aD (t:=decide (p=[])) (et_cmp kz kz rfl) (fun t=>?_) fun t=>?_
  ·rw[t] at k;exact k
  ·rw[t] at k;refine gZ kz kz (es:=p.map fun c=>.str [c]) rfl ?_;refine yO (u:=.none) (d:=.none) (kb:=fun _ _=>True) hb p f sg ?_;cases q:fp b (fe b) p f with
   |none=>rw[q] at k;exact k
   |some f'=>rw[q] at k;exact fun sg=>⟨trivial,ih f' _ sg k⟩
theorem BC {ds:List V} {K:Kx} {KE:Ke} (h:spWhole' ds σ K KE):Wlk Sp fS ds σ K KE:=by
 obtain⟨x,b,rfl,hb,hl,k⟩:=h;refine bk 4 ?_;refine aX (L':=[.str x,.int b,.lst ((bL 95 x).map .str),.int 0,.unb,.unb]) (ds:=[.lst ((bL 95 x).map .str),.int 0]) (aK (ag (fun K _ k=>⟨trivial,hl,k⟩) (ag kz au)) rfl) rfl ?_;refine gZ kz kz (es:=(bL 95 x).map .str) rfl (vZ hb _ 0 .unb .unb ?_);refine cu (eg 95 x) fun p ps e=>?_;have h95:(fe b).contains 95=false:=by rcases hb with rfl|rfl<;>decide
 exact er e (er ((Ct h95 x 0 p ps e).2) k)
end
noncomputable def cf:List Nat:=[105,110,116]
noncomputable def sId:List Nat:=[105,100]
noncomputable def Hu:List Nat:=[119,111,114,100]
noncomputable def bG:List Nat:=[114,101,115,101,114,118,101,100]
noncomputable def dw:List Nat:=[115,116,114,105,110,103]
noncomputable def pn (c:Nat) (r:List Nat):List Nat:=match decide (c=36)&&decide (((c::r).length:Int)>1) with|true=>sId|false=>match sP.contains c with|true=>Hu|false=>bG
noncomputable def lX (c:Nat) (r:List Nat):List V:=match ez (c::r) with|some i=>[.str cf,.int i]|none=>[.str (pn c r),.str (c::r)]
noncomputable def kv:aP:=fun ds σ K KE=>∃c r,ds=[.str (c::r)]∧K (.tup (lX c r)) σ
noncomputable def kZ:aP:=fun ds σ K KE=>∃c r,ds=[.str (c::r)]∧(c::r).length<ah∧K (dy (ez (c::r))) σ
theorem qI (c:Nat) (r:List Nat):[43,45].contains c=bz (c::r):=by
 by_cases h1:c=43
 ·subst h1;rfl
 ·by_cases h2:c=45
  ·subst h2;rfl
  ·unfold bz;simp only[(c9 fun z=>h1 (j2 z).1.symm:decide ([43]=(c::r).take 1)=false),(c9 fun z=>h2 (j2 z).1.symm:decide ([45]=(c::r).take 1)=false)];simp[h1,h2]
theorem fg {a b:Nat}:decide ([a]=[b])=decide (a=b):=by simp
noncomputable def Ic (s w:List Nat) (v:V) (row col:Int):Nat→V:=upd (upd (upd (upd (upd (fun _=>.unb) 5 (.str s)) 0 (.str w)) 6 v) 2 (.int row)) 3 (.int col)
noncomputable def fU (s w:List Nat) (v:V) (row col:Int):V:=.fobj 1 (Ic s w v row col)
noncomputable def plV (row col:Int):V:=.tup [.int row,.int col]
noncomputable def cT (b:Nat):Int:=if b=32 then 2147483648 else 9223372036854775808
noncomputable def wQ (h:Int) (sg:Bool):Int:=match sg with|true=>h|false=>2*h
noncomputable def lZ (b:Nat) (sg:Bool) (i:Int):Option Int:=
 match decide (-cT b≤i)&&decide (i<wQ (cT b) sg) with
 |true=>some (match decide (i≥cT b) with|true=>i - 2*cT b|false=>i)
 |false=>none
noncomputable def lW (sg:Bool) (i:Int):Option Int:=match sg||decide (i≥4294967296) with|true=>none|false=>some i
noncomputable def pM (b:Nat) (sg:Bool) (i:Int):Option Int:=match decide ((b:Int)=0) with|true=>lW sg i|false=>lZ b sg i
noncomputable def eM (b:Nat) (sg:Bool) (i row col:Int):V:=match pM b sg i with|some j=>.int j|none=>plV row col
inductive spIsTok (ds:List V) (σ:Sto) (K:Kx) (KE:Ke):Prop
 |mk (s:_) (w:_) (v:_) (row:_) (col:_) (s':_) (h1:ds=[fU s w v row col,.str s']) (h2:K (.bool (decide (s=s'))) σ):spIsTok ds σ K KE
noncomputable def Ba:List V→List V|[a,b]=>[a,b,.none]|l=>l
inductive spIntOf (ds:List V) (σ:Sto) (K:Kx) (KE:Ke):Prop
 |mk (s:_) (w:_) (v:_) (row:_) (col:_) (b:Nat) (h1:ds=[fU s w v row col,.int b]) (h2:(b=32∨b=64)) (h3:(s≠cf∧KE row col σ∨∃c r i,s=cf∧w=c::r∧v= .int i∧match lZ b (bz (c::r)) i with|some j=>K (.int j) σ|none=>KE row col σ)):spIntOf ds σ K KE
inductive spU32 (ds:List V) (σ:Sto) (K:Kx) (KE:Ke):Prop
 |mk (s:_) (w:_) (v:_) (row:_) (col:_) (h1:ds=[fU s w v row col]) (h2:(s≠cf∧KE row col σ∨∃c r i,s=cf∧w=c::r∧v= .int i∧match lW (bz (c::r)) i with|some j=>K (.int j) σ|none=>KE row col σ)):spU32 ds σ K KE
inductive spTold (ds:List V) (σ:Sto) (K:Kx) (KE:Ke):Prop
 |mk (s:_) (w:_) (v:_) (row:_) (col:_) (b:Nat) (h1:ds=[fU s w v row col,.int b]) (h2:(b=0∨b=32∨b=64)) (h3:(s≠cf∧K (plV row col) σ∨∃c r i,s=cf∧w=c::r∧v= .int i∧K (eM b (bz (c::r)) i row col) σ)):spTold ds σ K KE
inductive spDue (ds:List V) (σ:Sto) (K:Kx) (KE:Ke):Prop
 |mk (c:_) (r:_) (i:_) (row:_) (col:_) (b:Nat) (h1:ds=[.tup [.str cf,.str (c::r),.int i,.int row,.int col],.int b]) (h2:(b=0∨b=32∨b=64)) (h3:(bz (c::r)=false→0≤i)) (h4:K (eM b (bz (c::r)) i row col) σ):spDue ds σ K KE
section
variable {KE:(Nat→V)→Ke}
set_option tactic.hygienic true in
theorem II (h28:Sp 28=spWhole') {ds:List V} {K:Kx} {KE:Ke} (h:kZ ds σ K KE):Wlk Sp sd ds σ K KE:=by
 refine aZ h fun c r z2_ hl k=>?_;subst z2_;refine bk 2 ?_;have hb:(fL (c::r)).length≤r.length+1:=by
  unfold fL
  split
  ·simp
  ·simp
 refine ak (d:=.str (fL (c::r))) (bD (t:=bz (c::r)) (et_cmp (eO (n:=0) kz kz rfl) kz (congrArg some (qI c r))) (fun t=>?_) fun t=>?_) rfl rfl ?_
 ·unfold fL;rw[t];exact mS (n:=1) kz kz
 ·unfold fL;rw[t];exact kz
 refine ak (d:=dy (mB (c::r))) (bD (t:=decide ((fL (c::r)).take 2=[48,120])) (et_cmp (wV (n:=2) kz kz) kz rfl) (fun t=>?_) fun t=>?_) rfl rfl ?_
 ·unfold mB;rw[t];exact bt (ag (mS (n:=2) kz kz) (ag kz au)) fun K KE k=>h28▸⟨_,16,rfl,.inr rfl,j0 (b9 (by rw[z4];exact F9 ..) hb) hl,k⟩
 ·unfold mB;rw[t];refine bt (ag kz (ag kz au)) fun K KE k=>h28▸⟨_,10,rfl,.inl rfl,?_,k⟩;exact j0 hb hl
 have v2:Ev Sp gvL (fr [.str (c::r),.str (fL (c::r)),dy (mB (c::r))]) σ (.var 2) (dy (mB (c::r))) σ:=eL rfl mM;refine bB (bD (et_or (et_cmp v2 kz tD) fun _=>et_cmp (eO (n:=0) kz kz rfl) kz rfl) (fun t=>?_) fun t=>?_) k
 ·have:ez (c::r)=mB (c::r):=by
   unfold ez
   split
   ·rename_i q;exact q.symm
   ·rename_i q
    rw[q] at t⊢;have:decide ((c::r).take 1=[45])=false:=by simpa using t
    exact er this rfl
  rw[this];exact v2
 ·have q7:=m4.mp t;refine ar (d9.mp (Option.isNone_eq_false_iff.mp q7.1)) fun i hi=>?_;have:ez (c::r)=some (-i):=by
   unfold ez;refine er hi ?_;have:decide ((c::r).take 1=[45])=true:=by simpa using q7.2
   simp only[this]
  refine er this ?_;rw[hi] at v2⊢;exact nI v2
theorem BA (h4:Sp 4=zZ) {ds:List V} {K:Kx} {KE:Ke} (h:kv ds σ K KE):Wlk Sp pE ds σ K KE:=by
 refine dU h fun c r z2_ k=>?_;subst z2_;refine bk 1 ?_;refine ak (bt (ag kz au) fun K KE k=>h4▸⟨c::r,rfl,k⟩) rfl rfl ?_;have v1:Ev Sp gvL (fr [.str (c::r),dy (ez (c::r))]) σ (.var 1) (dy (ez (c::r))) σ:=eL rfl mM;have h0:Ev Sp gvL (fr [.str (c::r),dy (ez (c::r))]) σ (.sub (.var 0) (.lit (.int 0))) (.str [c]) σ:=eO (n:=0) kz kz rfl;unfold lX at k;refine aV (et_cmp v1 kz yQ) (fun t=>?_) fun t=>?_
 ·cases q:ez (c::r) with
  |none=>rw[q] at t;cases t
  |some i=>
   rw[q] at k v1;exact bB (aK (ag kz (ag v1 au)) rfl) k
 ·cases q:ez (c::r) with
  |some i=>rw[q] at t;cases t
  |none=>
   rw[q] at k h0;unfold pn at k;refine aV (et_and (et_cmp h0 kz (congrArg some fg)) fun _=>et_cmp kz kz rfl) (fun t=>?_) fun t=>?_
   ·rw[t] at k;exact bB (aK kz rfl) k
   ·rw[t] at k;refine aV (et_cmp h0 kz rfl) (fun t=>?_) fun t=>?_
    ·rw[show sP.contains c=true from t] at k;exact bB (aK kz rfl) k
    ·rw[show sP.contains c=false from t] at k;exact bB (aK kz rfl) k
theorem EB {ds:List V} {K:Kx} {KE:Ke} (h:spIsTok ds σ K KE):Wlk Sp oz (Ba ds) σ K KE:=by
 obtain⟨s,w,v,row,col,s',rfl,k⟩:=h;refine bB (d:=.bool (decide (s=s'))) (fun K KE k=>?_) k;show(match decide (s=s') with|true=>K (.bool true) σ|false=>K (.bool false) σ);cases q:decide (s=s')<;>(rw[q] at k;exact k)
end
noncomputable def lstO (b:Nat):Int:=match decide ((b:Int)=0) with|true=>0|false=> -cT b
noncomputable def DZ (b:Nat):Int:=match decide ((b:Int)=0) with|true=>4294967296|false=>2*cT b
noncomputable def pu (b:Nat) (sg:Bool):Int:=match sg with|true=>(match decide ((b:Int)>0) with|true=>cT b|false=>0)|false=>DZ b
noncomputable def sW (b:Nat) (i:Int):Int:=match decide ((b:Int)>0)&&decide (i≥cT b) with|true=>i - 2*cT b|false=>i
theorem vP (hb:b=0∨b=32∨b=64) (h0:sg=false→0≤i) (h:(decide (i<lstO b)||decide (i≥pu b sg))=true):pM b sg i=none:=by
 simp only[z7,o5,o5] at h;rcases hb with rfl|hb
 ·show lW sg i=none;unfold lW;replace h:i<0∨i≥pu 0 sg:=h
  induction sg with
  |true=>rfl
  |false=>
   replace h:i<0∨i≥4294967296:=h;have:=h0 rfl;rw[Bool.false_or,f9 (h.resolve_left (r8.mpr this))]
 ·have e:pM b sg i=lZ b sg i∧lstO b= -cT b∧pu b sg=wQ (cT b) sg:=by rcases hb with rfl|rfl<;>(cases sg<;>exact⟨rfl,rfl,rfl⟩)
  simp only[e.2.1,e.2.2] at h;rw[e.1];unfold lZ;rcases h with h|h
  ·rw[c9 (I7.mpr h),Bool.false_and]
  ·rw[c9 (p:=i<_) (r8.mpr h),v4]
theorem vO (hb:b=0∨b=32∨b=64) (h:(decide (i<lstO b)||decide (i≥pu b sg))=false):pM b sg i=some (sW b i):=by
 refine am (m4.mp h) fun h1 h2=>?_;replace h1:=g8 h1;replace h2:=g8 h2;rcases hb with rfl|hb
 ·show lW sg i=_;unfold lW;replace h1:¬i<0:=h1
  induction sg with
  |true=>exact absurd (show i≥pu 0 true from r8.mp h1) h2
  |false=>
   replace h2:¬i≥4294967296:=h2;refine er (c9 h2) ?_;rfl
 ·have e:pM b sg i=lZ b sg i∧lstO b= -cT b∧pu b sg=wQ (cT b) sg∧decide ((b:Int)>0)=true:=by rcases hb with rfl|rfl<;>(cases sg<;>exact⟨rfl,rfl,rfl,rfl⟩)
  rw[e.2.1] at h1;rw[e.2.2.1] at h2;refine er e.1 ?_;unfold lZ sW;refine er (f9 (r8.mp h1)) (er (f9 (p:=i<_) (I7.mp h2)) (er e.2.2.2 ?_));cases decide (i≥cT b)<;>rfl
section
variable {KE:(Nat→V)→Ke}
theorem oi (h2:Sp 2=spIsTok) (h:m i=fU s w v row col):Et Sp gvL m σ (.call 2 (.cons (.var i) (.cons (.lit (.str s')) .nil))) (decide (s=s')):=
 GG (ag (eL h rfl) (ag kz au)) fun K KE k=>h2▸⟨s,w,v,row,col,s',rfl,k⟩
theorem EC (h2:Sp 2=spIsTok) {ds:List V} {K:Kx} {KE:Ke} (h:spIntOf ds σ K KE):Wlk Sp Cf ds σ K KE:=by
 obtain⟨s,w,v,row,col,b,rfl,hb,h⟩:=h;refine bk 2 ?_;refine aV (et_not (oi h2 rfl)) (fun t=>?_) fun t=>?_
 ·rcases h with ⟨hs,k⟩|⟨c,r,i,rfl,rfl,rfl,k⟩
  ·exact dJ kz kz kz k
  ·cases t
 ·rcases h with ⟨hs,k⟩|⟨c,r,i,rfl,rfl,rfl,k⟩
  ·exact absurd (c8 (nf t)) hs
  ·refine ak (d:=.int (cT b)) (aB (M9:=.int 1) (M5:=.int (b - 1)) kz (aB kz kz fun _ k=>k) fun K k=>?_) rfl rfl ?_
   ·refine⟨⟨by lia,by decide⟩,?_⟩;rcases hb with rfl|rfl<;>exact k
   generalize hf:cT b=hl at*;have h0 (L:List V):Ev Sp gvL (fr (fU cf (c::r) (.int i) row col::L)) σ (.sub (.attr (.var 0) 0) (.lit (.int 0))) (.str [c]) σ:=eO (n:=0) (x:=c::r) kz kz rfl;refine ak (d:=.int (wQ hl (bz (c::r)))) (bD (t:=bz (c::r)) (et_cmp (h0 _) kz (congrArg some (qI c r))) (fun t=>?_) fun t=>?_) rfl rfl ?_
   ·rw[t];exact kz
   ·rw[t];exact aB kz kz fun _ k=>⟨PySem.IntMulOk.of_left (by decide),k⟩
   unfold lZ at k;rw[hf] at k;refine aV (et_not (et_cmp2 (nI kz) kz kz rfl rfl)) (fun t=>?_) fun t=>?_
   ·simp only[nt t] at k;exact dJ kz kz kz k
   ·rw[nf t] at k;refine bB (bD (t:=decide (i≥hl)) (et_cmp kz kz rfl) (fun t=>?_) fun t=>?_) k
    ·rw[t];exact aB kz (aB kz kz fun _ k=>⟨PySem.IntMulOk.of_left (by decide),k⟩) fun _ k=>k
    ·rw[t];exact kz
theorem LD (h2:Sp 2=spIsTok) {ds:List V} {K:Kx} {KE:Ke} (h:spU32 ds σ K KE):Wlk Sp Cb ds σ K KE:=by
 obtain⟨s,w,v,row,col,rfl,h⟩:=h;rcases h with ⟨hs,k⟩|⟨c,r,i,rfl,rfl,rfl,k⟩
 ·refine aV (et_or (u:=false) (et_not (oi h2 rfl)) fun t=>absurd (c8 (nf t)) hs) (fun t=>dJ kz kz kz k) fun t=>?_;exact absurd (c8 (nf (m4.mp t).1)) hs
 ·have h0 (L:List V):Ev Sp gvL (fr (fU cf (c::r) (.int i) row col::L)) σ (.sub (.attr (.var 0) 0) (.lit (.int 0))) (.str [c]) σ:=eO (n:=0) (x:=c::r) kz kz rfl;unfold lW at k;refine aV (et_or (et_not (oi h2 rfl)) fun _=>et_cmp (h0 _) kz (congrArg some (qI c r))) (fun t=>?_) fun t=>?_
  ·rw[show bz (c::r)=true from t] at k;exact dJ kz kz kz k
  ·rw[show bz (c::r)=false from t,Bool.false_or] at k;refine aV (et_cmp kz (aB kz kz fun _ k=>⟨by decide,k⟩:Ev Sp gvL (fr [fU cf (c::r) (.int i) row col]) σ (.bin .pow (.lit (.int 2)) (.lit (.int 32))) (.int 4294967296) σ) rfl) (fun t=>?_) fun t=>?_
   ·simp only[t] at k;exact dJ kz kz kz k
   ·rw[t] at k;exact bB kz k
theorem Ae (k:vcS Sp gvL b m σ (fun m σ=>vcS Sp gvL r m σ Kn Kr Kb Kc KE) Kr Kb Kc (fun m' r c M1=>vcS Sp gvL h (upd m' i (.exc r c)) M1 (fun _ _=>False) Kr (fun _ _=>False) (fun _ _=>False) (fun _ _ _ _=>False))):vcS Sp gvL (.seq (.try_ b i h) r) m σ Kn Kr Kb Kc KE:=k
theorem Fy (h:Et Sp gvL m σ c t) (ha:t=true→vcX Sp gvL a m σ Kr (KE m)) (hb:t=false→vcX Sp gvL b m σ Kr (KE m)):vcS Sp gvL (.seq (.ret (.ife c a b)) r) m σ Kn Kr Kb Kc KE:=by
 refine h (fun t J=>match t with|true=>vcX Sp gvL a m J Kr (KE m)|false=>vcX Sp gvL b m J Kr (KE m)) _ ?_;cases t
 ·exact hb rfl
 ·exact ha rfl
theorem ID (h22:Sp 22=spIntOf) (h23:Sp 23=spU32) {ds:List V} {K:Kx} {KE:Ke} (h:spTold ds σ K KE):Wlk Sp kP ds σ K KE:=by
 obtain⟨s,w,v,row,col,b,rfl,hb,h⟩:=h;refine Ae ?_;have H:∀r c:Int,K (plV r c) σ→vcS Sp gvL (.seq (.ret (.tup (.cons (.attr (.var 2) 2) (.cons (.attr (.var 2) 3) .nil)))) .skip) (upd (fr [fU s w v row col,.int b]) 2 (.exc r c)) σ (fun _ _=>False) K (fun _ _=>False) (fun _ _=>False) (fun _ _ _ _=>False):=fun r c k=>bB (aK kz rfl) k;unfold eM pM at h;refine Fy (t:=decide ((b:Int)=0)) (et_cmp kz kz rfl) (fun t=>?_) fun t=>?_
 ·rw[t] at h;show Sp 23 _ σ _ _;refine er h23 ?_;refine⟨s,w,v,row,col,rfl,?_⟩;rcases h with ⟨h1,h2⟩|⟨c,r,i,rfl,rfl,rfl,k⟩
  ·exact .inl ⟨h1,H _ _ h2⟩
  ·refine .inr ⟨c,r,i,rfl,rfl,rfl,?_⟩;dsimp only at k;cases q:lW (bz (c::r)) i with
   |none=>rw[q] at k;exact H _ _ k
   |some j=>rw[q] at k;exact k
 ·rw[t] at h;show Sp 22 _ σ _ _;refine er h22 ?_;refine⟨s,w,v,row,col,b,rfl,(hb.resolve_left fun z=>by rw[z] at t;cases t),?_⟩;rcases h with ⟨h1,h2⟩|⟨c,r,i,rfl,rfl,rfl,k⟩
  ·exact .inl ⟨h1,H _ _ h2⟩
  ·refine .inr ⟨c,r,i,rfl,rfl,rfl,?_⟩;dsimp only at k;cases q:lZ b (bz (c::r)) i with
   |none=>rw[q] at k;exact H _ _ k
   |some j=>rw[q] at k;exact k
theorem xK {one:V} {c:Nat} {r:List Nat} {i row col:Int} {b:Nat} {sg:Bool} {K:Kx} {KE:Ke} (hone:V.tup [.str cf,.str (c::r),.int i,.int row,.int col]=one) (hb:b=0∨b=32∨b=64) (h0:sg=false→0≤i)
  (pw:∀L:List V,b=32∨b=64→Ev Sp gvL (fr (one:: .int b::L)) σ (.bin .pow (.lit (.int 2)) (.bin .sub (.var 1) (.lit (.int 1)))) (.int (cT b)) σ)
  (pw2:∀L:List V,b=32∨b=64→Ev Sp gvL (fr (one:: .int b::L)) σ (.bin .pow (.lit (.int 2)) (.var 1)) (.int (2*cT b)) σ) (k:K (eM b sg i row col) σ):
  vcS Sp gvL gD.aft3 (fr [one,.int b,.str (c::r),.int i,.int (lstO b),.int (pu b sg)]) σ (fun _ M1=>K .none M1) K (fun _ _=>False) (fun _ _=>False) (fun _=>KE):=by
 unfold eM at k;refine aV (et_or (et_cmp kz kz rfl) fun _=>et_cmp kz kz rfl) (fun t=>?_) fun t=>?_
 ·rw[vP hb h0 t] at k;refine bB (d:=plV row col) (aK (evp (fun K _ k=>?_) (evp (fun K _ k=>?_) au)) rfl) k
  ·rw[←hone];exact k
  ·rw[←hone];exact k
 ·rw[vO hb t] at k;refine bB (d:=.int (sW b i)) (bD (t:=decide ((b:Int)>0)&&decide (i≥cT b)) ?_ (fun t=>?_) fun t=>?_) k
  ·refine et_and (et_cmp kz kz rfl) fun t=>et_cmp kz (pw _ ?_) rfl;exact hb.resolve_left fun z=>by rw[z] at t;cases t
  ·unfold sW;rw[t];exact aB kz (pw2 _ (hb.resolve_left fun z=>by rw[z] at t;cases t)) fun _ k=>k
  ·unfold sW;rw[t];exact kz
theorem LL {ds:List V} {K:Kx} {KE:Ke} (h:spDue ds σ K KE):Wlk Sp gD ds σ K KE:=by
 obtain⟨c,r,i,row,col,b,rfl,hb,h0,k⟩:=h;refine bk 4 ?_;generalize hone:V.tup [.str cf,.str (c::r),.int i,.int row,.int col]=one;refine aX (ds:=[.str (c::r),.int i]) (aK (evp (fun K _ k=>?_) (evp (fun K _ k=>?_) au)) rfl) rfl ?_
 ·rw[←hone];exact k
 ·rw[←hone];exact k
 have pw (L:List V) (hb':b=32∨b=64):Ev Sp gvL (fr (one:: .int b::L)) σ (.bin .pow (.lit (.int 2)) (.bin .sub (.var 1) (.lit (.int 1)))) (.int (cT b)) σ:=by
  refine aB (M5:=.int (b - 1)) kz (aB kz kz fun _ k=>k) fun K k=>?_;rcases hb' with rfl|rfl<;>exact⟨by decide,k⟩
 have pw2 (L:List V) (hb':b=32∨b=64):Ev Sp gvL (fr (one:: .int b::L)) σ (.bin .pow (.lit (.int 2)) (.var 1)) (.int (2*cT b)) σ:=by
  refine aB (M5:=.int b) kz kz fun K k=>?_;rcases hb' with rfl|rfl<;>exact⟨by decide,k⟩
 refine aX (ds:=[.int (lstO b),.int (DZ b)]) (bD (et_cmp kz kz rfl) (fun t=>?_) fun t=>?_) rfl ?_
 ·unfold lstO DZ;rw[t];exact aK (ag kz (ag (aB kz kz fun _ k=>⟨by decide,k⟩) au)) rfl
 ·unfold lstO DZ;rw[t];exact aK (ag (nI (pw _ (hb.resolve_left fun z=>by rw[z] at t;cases t))) (ag (pw2 _ (hb.resolve_left fun z=>by rw[z] at t;cases t)) au)) rfl
 refine aV (t:=bz (c::r)) (et_cmp (eO (n:=0) (x:=c::r) kz kz rfl) kz (congrArg some (qI c r))) (fun t=>?_) fun t=>?_
 ·refine ak (d:=.int (pu b true)) (bD (et_cmp kz kz rfl) (fun t=>?_) fun t=>?_) rfl rfl ?_
  ·unfold pu;dsimp only;refine er t ?_;exact pw _ (hb.resolve_left fun z=>by rw[z] at t;cases t)
  ·unfold pu;dsimp only;refine er t ?_;exact kz
  rw[t] at h0 k;exact xK hone hb h0 pw pw2 k
 ·rw[t] at h0 k;exact xK (sg:=false) hone hb h0 pw pw2 k
end
noncomputable def aH:Nat:=1000
theorem io:aH+1≤ah:=by decide
noncomputable def ma (x:List Nat):List Nat:=(List.range x.length).filter (cP x)
noncomputable def bu (l:List Nat):List V:=l.map fun(k:Nat)=>V.int (k:Int)
noncomputable def qH:aP:=fun ds σ K KE=>∃x,ds=[.str x]∧x.length≤aH∧K (.lst (bu (ma x))) σ
inductive spPlace (ds:List V) (σ:Sto) (K:Kx) (KE:Ke):Prop
 |mk (x:_) (n:_) (h1:ds=[.lst (bu (ma x)),.int (n:Nat)]) (h2:x.length≤aH) (h3:n≤x.length) (h4:K (plV (aY x n) (bI x n)) σ):spPlace ds σ K KE
section
variable {gv:Nat→List Nat} {KE:(Nat→V)→Ke}
theorem Bo {α:Type} {i:Nat} {cond elt:X} {f:α→V} {g:α→Option V} {live:Sto→Prop} (hl:live σ) {K:List V→Sto→Prop}:∀(l:List α) (acc:List V),
  (∀x∈l,∃t,Et Sp gv (upd m i (f x)) σ cond t∧match g x with|some r=>t=true∧Ev Sp gv (upd m i (f x)) σ elt r σ|none=>t=false)→K (acc++l.filterMap g) σ→
  jQ live (fun v ML k=>vcT Sp gv cond (upd m i v) ML (fun t MQ=>match t with
     |true=>vcX Sp gv elt (upd m i v) MQ (fun r MV=>k (some r) MV) (fun _ _ _=>False)
     |false=>k none MQ) (fun _ _ _=>False)) K (l.map f) acc σ:=by
 intro zz
 induction zz with
 |nil=>
  intro acc _ k;simp only[List.filterMap_nil,d7] at k;exact k
 |cons x l ih=>
  intro acc h k;simp only[j3]
  first|rw[wz]|rw[compV_nil]
  refine aj (h x (.head _)) fun t h1 h2=>?_;refine h1 _ _ ?_;rw[y9] at k;cases q:g x with
  |none=>
   rw[q] at h2 k;subst h2;exact⟨hl,ih acc (fun y hy=>h y (.tail _ hy)) k⟩
  |some r=>
   rw[q] at h2 k;obtain⟨rfl,h2⟩:=h2;refine h2 _ _ ⟨hl,ih (acc++[r]) (fun y hy=>h y (.tail _ hy)) ?_⟩;rw[e9];exact k
theorem iU {α:Type} {i kind:Nat} {e e' cond elt:X} {d d':V} {f:α→V} {g:α→Option V} {l:List α} (he:Ev Sp gv m σ e d σ) (he':Ev Sp gv m σ e' d' σ) (hs:jl kind d d' σ=some (l.map f)) (hl:jy d σ σ)
  (h:∀x∈l,∃t,Et Sp gv (upd m i (f x)) σ cond t∧match g x with|some r=>t=true∧Ev Sp gv (upd m i (f x)) σ elt r σ|none=>t=false) (hn:(l.filterMap g).length≤ah):Ev Sp gv m σ (.comp false elt cond i kind e e') (.lst (l.filterMap g)) σ:=by
 intro K KE k;refine he _ _ (he' _ _ ?_);refine er hs ?_;exact Bo (K:=fun acc ML=>pQ false acc ML K) hl l [] h ⟨hn,k⟩
theorem jc (h:n≤aH):jl 0 (.int n) .none σ=some ((List.range n).map fun(k:Nat)=>V.int (k:Int)):=by
 show ifO _ _=_;unfold ifO;rw[i7 (by unfold aH at h;unfold ah;lia)];rfl
theorem eY {p:Nat→Bool} {f:Nat→V}:∀l:List Nat,(l.filterMap fun k=>match p k with|true=>some (f k)|false=>none)=(l.filter p).map f:=by
 intro zz
 induction zz with
 |nil=>
  exact rfl
 |cons k l ih=>
  refine er y9 (er D5 ?_);cases p k
  ·exact ih
  ·exact congrArg (f k:: ·) (ih)
theorem IM {ds:List V} {K:Kx} {KE:Ke} (h:qH ds σ K KE):Wlk Sp vW ds σ K KE:=by
 refine eQ h fun x z1_ hx k=>?_;subst z1_;unfold ma bu at k;rw[←eY] at k;refine bB (iU (l:=List.range x.length) (f:=fun(k:Nat)=>V.int (k:Int)) kz kz (jc hx) trivial (fun n hn=>?_) ?_) k
 ·have hn:=B1.mp hn;have A (L:List V):Ev Sp gvL (upd (fr [.str x]) 1 (.int n)) σ (.sub (.var 0) (.var 1)) (.str [x[n]]) σ:=eO (n:=n) kz kz (g7 hn);refine⟨cP x n,?_,?_⟩
  ·simp only[←Ap (g7 hn)];refine et_or (et_cmp (A []) kz rfl) fun _=>et_and (et_cmp (A []) kz rfl) fun _=>et_cmp (d:=.str ((x.drop (n+1)).take 1)) ?_ kz rfl;have:=gd (Sp:=Sp) (gv:=gvL) (m:=upd (fr [.str x]) 1 (.int n)) (σ:=σ) (a:=.var 0) (lo:=.bin .add (.var 1) (.lit (.int 1))) (hi:=.bin .add (.var 1) (.lit (.int 2))) (x:=x) (n:=n+1) (k:=n+2) kz (aB kz kz fun _ k=>k) (aB kz kz fun _ k=>k);rw[show n+2 - (n+1)=1 by lia] at this;exact this
  ·cases q:cP x n
   ·exact rfl
   ·exact⟨rfl,kz⟩
 ·refine b9 (List.length_filterMap_le _ _) ?_;refine er A1 ?_;unfold aH at hx;unfold ah;lia
theorem qu (h:n≤x.length):(ma x).filter (fun k=>decide (k<n))=(List.range n).filter (cP x):=by
 unfold ma;refine ar (Nat.le.dest h) fun k hk=>?_;simp only[←hk,List.range_add,C0,C0];have e2:(((List.range k).map (n+ ·)).filter (cP x)).filter (fun k=>decide (k<n))=[]:=by
  refine H5.mpr fun a ha=>?_;refine aj (m5.mp (E8.mp ha).1) fun b _ z2_=>?_;subst z2_;have:¬n+b<n:=by lia
  rw[c9 this];exact F3
 simp only[(List.filter_eq_self.mpr fun a ha=>f9 (B1.mp (E8.mp ha).1):((List.range n).filter (cP x)).filter (fun k=>decide (k<n))=(List.range n).filter (cP x)),e2,d7]
noncomputable def hG (x:List Nat) (n:Nat):List V:=V.int (-1)::bu ((List.range n).filter (cP x))
theorem zJ (x:List Nat):∀n,(hG x n).length=(plc x n).1∧∃l,hG x n=l++[.int (plc x n).2]:=by
 intro zz
 induction zz with
 |zero=>
  exact⟨rfl,[],rfl⟩
 |succ n ih=>
  have e:hG x (n+1)=hG x n++bu ([n].filter (cP x)):=by
   unfold hG bu;rw[List.range_succ,C0,p0];rfl
  rw[e,plc,D5];cases q:cP x n with
  |true=>
   dsimp only;exact⟨by rw[b0,(ih).1];rfl,_,rfl⟩
  |false=>
   have:(if false=true then n::[].filter (cP x) else[].filter (cP x))=[]:=rfl;simp only[this,show bu []=[] from rfl,d7];exact ih
theorem tx (k:K v σ):uQ (.lst (l++[v])) (.int (-1)) σ K:=by
 have e:(idx (l++[v]).length (-1)).bind ((l++[v])[·]?)=some v:=by
  unfold idx;refine er (i3 (by lia)) (er (i7 (by rw[b0,e8];lia)) ?_);show(l++[v])[_]?=some v;have:(-1+(((l++[v]).length:Nat):Int)).toNat=l.length:=by rw[b0,e8];lia
  rw[this,D9 (f3 _),Nat.sub_self];rfl
 exact IB (f:=fun v=>K v σ) e k
theorem Ey {ds:List V} {K:Kx} {KE:Ke} (h:spPlace ds σ K KE):Wlk Sp uC ds σ K KE:=by
 obtain⟨x,n,rfl,hx,hn,k⟩:=h;refine bk 1 ?_;obtain⟨a1,l,a2⟩:=zJ x n;have hL:(hG x n).length≤aH+1:=by
  unfold hG bu;rw[c6,f7];have:=List.length_filter_le (cP x) (List.range n);rw[A1] at this;lia
 have hs:=io;refine ak (d:=.lst (hG x n)) (aB (M9:=.lst [.int (-1)]) (M5:=.lst (bu ((List.range n).filter (cP x)))) (fun K _ k=>⟨by decide,k⟩) ?_ fun _ k=>?_) rfl rfl ?_
 ·refine er (qu hn).symm ?_;unfold bu;rw[←eY];refine iU (l:=ma x) (f:=fun(k:Nat)=>V.int (k:Int)) kz kz rfl trivial (fun j hj=>⟨decide ((j:Int)<n),et_cmp kz kz rfl,?_⟩) ?_
  ·by_cases q:j<n
   ·rw[f9 q];exact⟨f9 (by lia),kz⟩
   ·rw[c9 q];exact c9 (by lia)
  ·simp only[eY,f7,qu hn];unfold hG bu at hL;rw[c6,f7] at hL;lia
 ·refine⟨?_,k⟩;unfold hG at hL;simp only[c6] at hL;simp only[e8];lia
 ·refine bB (d:=plV (aY x n) (bI x n)) (aK (evp (d:=.int (aY x n)) (dE (d:=.lst (hG x n)) kz fun _ k=>?_) (evp (d:=.int (bI x n)) (aB (M5:=.int (plc x n).2) kz (dZ (d:=.lst (hG x n)) (j:=.int (-1)) kz kz fun _ k=>?_) fun _ k=>k) au)) rfl) k
  ·unfold aY at k;rw[←a1] at k;exact k
  ·refine er a2 ?_;exact tx k
end
section
set_option backward.match.sparseCases false
open PySem PySem.W PyProof.Rows
noncomputable def hZ (c:Nat):List Nat:=
 if c<128 then[c] else if c<2048 then[192+c/64,128+c%64] else if c<65536 then[224+c/4096,128+c/64%64,128+c%64] else[240+c/262144,128+c/4096%64,128+c/64%64,128+c%64]
def kT (c:Nat):Prop:=c<1114112∧¬(55296≤c∧c<57344)
noncomputable def gG:aP:=fun ds σ K KE=>∃c,ds=[.str [c]]∧kT c∧K (.bytes (hZ c)) σ
noncomputable def fM:aP:=fun ds σ K KE=>∃c:Nat,ds=[.int c]∧c<1114112∧K (.lst (bu (hZ c))) σ
theorem AG {a q:Nat} (h:a&&&q=0):Builtin.bitOr (a:Int) (q:Int)=((a+q:Nat):Int):=by
 simp only[bitOr_and,bitAnd_pp (g9 _) (g9 _),r9,r9,h];lia
theorem Mz (c:Nat):Builtin.bitAnd (c:Int) 63=((c%64:Nat):Int):=by
 refine er (bitAnd_pp (g9 _) (by decide)) ?_;exact congrArg _ (Nat.and_two_pow_sub_one_eq_mod c 6)
theorem LY (c k:Nat):((c:Int)).fdiv (2^k)=((c/2^k:Nat):Int):=by
 refine er (show(2:Int)^k=((2^k:Nat):Int) from by rw[Int.natCast_pow];rfl) (er (E2 _ (g9 _)) ?_);rfl
theorem Mi:∀q<64,128&&&q=0:=by decide
theorem Mh:∀q<32,192&&&q=0:=by decide
theorem Mg:∀q<16,224&&&q=0:=by decide
theorem Mf:∀q<8,240&&&q=0:=by decide
theorem jU (h:σ a=none):Sub σ (σ.put a o):=fun b o' e=>by
 have:b≠a:=fun z=>by rw[z,h] at e;cases e
 rw[aA σ o this];exact e
section
variable {gv:Nat→List Nat} {KE:(Nat→V)→Ke}
theorem Jm (hi:Nat.blt i L.length=true) (k:∀a,σ a=none→vcS Sp gv r (fr (L.set i (.bref a))) (σ.put a (.barr [])) Kn Kr Kb Kc KE):vcS Sp gv (.seq (.assign i .barr0) r) (fr L) σ Kn Kr Kb Kc KE:=by
 intro a ha;have:=k a ha;rw[←bh hi rfl] at this;exact this
theorem bub {o:Option AObj} {xs:List Nat} {P:List Nat→Prop} (h:o=some (.barr xs)) (p:P xs):(match (generalizing:=false) o with|some (.barr xs)=>P xs|_=>False):=by
 subst h;exact p
theorem wu {o e:X} {a c:Nat} {xs:List Nat} (ho:Ev Sp gv m σ o (.bref a) σ) (ha:σ a=some (.barr xs)) (he:Ev Sp gv m σ e (.int c) σ) (hl:xs.length<ah) (hc:c<256):Ev Sp gv m σ (.append o e) .none (σ.put a (.barr (xs++[c]))):=by
 refine fun K _ k=>ho _ _ ⟨bub (P:=fun _=>True) ha trivial,he (fun M5 M2=>rN (.bref a) M5 M2 K) _ ?_⟩;exact bub (P:=fun b=>(b.length<ah∧0≤(c:Int)∧(c:Int)<256)∧K .none (σ.put a (.barr (b++[(c:Int).toNat])))) ha ⟨⟨hl,g9 _,u7.mpr hc⟩,k⟩
theorem nY:∀l:List Nat,bS (bu l)=some (l.map fun(k:Nat)=>(k:Int)):=by
 intro zz
 induction zz with
 |nil=>
  exact rfl
 |cons c l ih=>
  show(bS (bu l)).map (_:: ·)=_;rw[ih];rfl
theorem oG (l:List Nat):(l.map fun(k:Nat)=>(k:Int)).map Int.toNat=l:=by
 refine er x9 ?_;exact List.map_id'' (fun _=>rfl) l
theorem oh {o e:X} {a:Nat} {xs ys:List Nat} (ho:Ev Sp gv m σ o (.bref a) σ) (ha:σ a=some (.barr xs)) (he:Ev Sp gv m σ e (.lst (bu ys)) σ) (hl:xs.length+ys.length≤ah) (hc:∀c∈ys,c<256):Ev Sp gv m σ (.extend o e) .none (σ.put a (.barr (xs++ys))):=by
 refine fun K _ k=>ho _ _ ⟨bub (P:=fun _=>True) ha trivial,he (fun M5 M2=>gL (.bref a) M5 M2 K) _ ?_⟩;refine bub (P:=fun b=>match (generalizing:=false) bS (bu ys) with|some is=>(b.length+is.length≤ah∧∀i∈is,0≤i∧i<256)∧K .none (σ.put a (.barr (b++is.map Int.toNat)))|none=>False) ha ?_;rw[nY];refine⟨⟨by rw[f7];exact hl,fun i hi=>?_⟩,?_⟩
 ·refine aj (m5.mp hi) fun c h z2_=>?_;subst z2_;have:=hc c h;lia
 ·rw[oG];exact k
theorem gf (ha:Ev Sp gv m σ a d J) (hs:Sub M1 J) (hf:Fz J M1 d d'):Ev Sp gv m σ (.frz a) d' M1:=
 fun K _ k=>ha _ _ ⟨d',M1,hs,hf,k⟩
theorem Jl (h:Et Sp gv m σ c t) (ht:t=false) (k:vcS Sp gv r m σ Kn Kr Kb Kc KE):vcS Sp gv (.seq (.ite c .dead .skip) r) m σ Kn Kr Kb Kc KE:=
 aD h (fun z=>by rw[z] at ht;cases ht) fun _=>k
theorem ba (h:Evs Sp gv m σ xs ds J) (hl:Nat.ble ds.length 100=true:=by rfl):Ev Sp gv m σ (.list false xs) (.lst ds) J:=
 fun K _ k=>h (fun ds J=>pQ false ds J K) _ ⟨b9 (m9 hl) (by decide),k⟩
theorem ltI {c n:Nat} (t:decide ((c:Int)<(n:Int))=true):c<n:=u7.mp (c8 t)
theorem geI {c n:Nat} (t:decide ((c:Int)<(n:Int))=false):¬c<n:=fun h=>g8 t (u7.mpr h)
theorem leI {c n:Nat} (t:decide ((n:Int)≤(c:Int))=true):n≤c:=n8.mp (c8 t)
theorem ya (h:c<d*n) (hk:k+n≤256):k+c/d<256:=l3 (B3 (D6 h) k) hk
theorem mE (q:Nat):128+q%64<256:=l3 (B3 (Nat.mod_lt q (by decide)) 128) (by decide)
theorem dB (h:x<256) (k:∀c∈l,c<256):∀c∈x::l,c<256:=List.forall_mem_cons.mpr ⟨h,k⟩
theorem IC {ds:List V} {K:Kx} {KE:Ke} (h:gG ds σ K KE):Wlk Sp yz ds σ K KE:=by
 refine eQ h fun c z1_ hc k=>?_;subst z1_;refine bk 3 ?_;refine Jm rfl fun a ha=>?_;have A (L:List V) (j:Nat):Ev Sp gvL (fr (.str [c]:: .bref a:: .str [c]:: .int c::L)) (σ.put a (.barr [])) (.bin .shr (.var 3) (.lit (.int (j:Int)))) (.int (c/2^j:Nat)) (σ.put a (.barr [])):=aB kz kz fun _ k=>⟨g9 _,by rw[r9,LY];exact k⟩;have N {L:List V} {e:X} {q:Nat} (h:Ev Sp gvL (fr L) (σ.put a (.barr [])) e (.int q) (σ.put a (.barr []))):Ev Sp gvL (fr L) (σ.put a (.barr [])) (.bin .bor (.lit (.int 128)) (.bin .band e (.lit (.int 63)))) (.int (128+q%64:Nat)) (σ.put a (.barr [])):=
  aB kz (aB h kz fun _ k=>k) fun K k=>by
   show K (.int (Builtin.bitOr ((128:Nat):Int) (Builtin.bitAnd (q:Int) 63))) _;rw[Mz,AG (Mi _ (Nat.mod_lt _ (by decide)))];exact k
 have O {L:List V} {e:X} {q n:Nat} (hq:n&&&q=0) (h:Ev Sp gvL (fr L) (σ.put a (.barr [])) e (.int q) (σ.put a (.barr []))):Ev Sp gvL (fr L) (σ.put a (.barr [])) (.bin .bor (.lit (.int n)) e) (.int (n+q:Nat)) (σ.put a (.barr [])):=
  aB kz h fun K k=>by
   show K (.int (Builtin.bitOr (n:Int) (q:Int))) _;refine er (AG hq) ?_;exact k
 have R (xs:List Nat) (k:K (.bytes xs) σ):vcS Sp gvL (.seq (.ret (.frz (.blt 3 (.var 1)))) .skip) (fr [.str [c],.bref a,.str [c],.int c]) (σ.put a (.barr xs)) (fun _ M1=>K .none M1) K (fun _ _=>False) (fun _ _=>False) (fun _=>KE):=
  bB (gf (dE kz fun K k=>bub (P:=fun b=>K (.bytes b) (σ.put a (.barr xs))) (ai ..) k) (jU ha) (.same _)) k
 refine gZ kz kz (es:=[.str [c]]) rfl ?_
 first|rw[bx]|rw[bH]
 refine er (bh rfl rfl) ?_;refine ak (d:=.int c) (L':=[.str [c],.bref a,.str [c],.int c]) kz rfl rfl ?_;refine Jl (et_cmp2 kz kz kz rfl rfl) ?_ ?_
 ·exact A4.mpr fun z=>hc.2 ⟨leI (n:=55296) (d8.mp z).1,ltI (n:=57344) (d8.mp z).2⟩
 have hs:=hc.1;unfold hZ at k;refine aD (et_cmp kz kz rfl) (fun t=>?_) fun t=>?_
 ·have q:c<128:=ltI (n:=128) t;rw[i7 q] at k;refine aE (wu (c:=c) kz (ai ..) kz (by decide) (v9 q (by decide))) ⟨trivial,?_⟩;simp only[aM];exact R _ k
 rw[i3 (geI (n:=128) t)] at k;refine aD (et_cmp kz kz rfl) (fun t=>?_) fun t=>?_
 ·have q:c<2048:=ltI (n:=2048) t;rw[i7 q] at k;refine aE (oh (ys:=[192+c/64,128+c%64]) kz (ai ..) (ba (evp (O (Mh _ (D6 q)) (A _ 6)) (evp (N kz) au))) (show 2≤ah by decide) ?_) ⟨trivial,?_⟩
  ·exact dB (ya (n:=32) q (by decide)) (dB (mE _) nofun)
  ·rw[aM];exact R [192+c/64,128+c%64] k
 rw[i3 (geI (n:=2048) t)] at k;have H:Et Sp gvL (fr [.str [c],.bref a,.str [c],.int c]) (σ.put a (.barr [])) (.cmp .lt (.var 3) (.lit (.int 65536))) (decide ((c:Int)<65536)):=et_cmp kz kz rfl
 with_reducible refine aD H ?_ ?_
 all_goals intro t
 ·have q:c<65536:=ltI (n:=65536) t;rw[i7 q] at k;refine aE (oh (ys:=[224+c/4096,128+c/64%64,128+c%64]) kz (ai ..) (ba (evp (O (Mg _ (D6 q)) (A _ 12)) (evp (N (A _ 6)) (evp (N kz) au)))) (show 3≤ah by decide) ?_) ⟨trivial,?_⟩
  ·exact dB (ya (n:=16) q (by decide)) (dB (mE _) (dB (mE _) nofun))
  ·rw[aM];exact R [224+c/4096,128+c/64%64,128+c%64] k
 ·rw[i3 (geI (n:=65536) t)] at k;refine aE (oh (ys:=[240+c/262144,128+c/4096%64,128+c/64%64,128+c%64]) kz (ai ..) (ba (evp (O (Mf _ (D6 (n:=262144) (k:=8) (v9 hs (by decide)))) (A _ 18)) (evp (N (A _ 12)) (evp (N (A _ 6)) (evp (N kz) au))))) (show 4≤ah by decide) ?_) ⟨trivial,?_⟩
  ·exact dB (ya (n:=8) (v9 hs (by decide)) (by decide)) (dB (mE _) (dB (mE _) (dB (mE _) nofun)))
  ·rw[aM];exact R [240+c/262144,128+c/4096%64,128+c/64%64,128+c%64] k
theorem fw:∀xs:List V,Fzs σ M1 xs xs:=by
 intro zz
 induction zz with
 |nil=>
  exact .nil
 |cons _ xs ih=>
  exact .cons (.same _) (ih)
theorem Jk (hi:Nat.blt i L.length=true) (h:Evs Sp gv (fr L) σ xs ds J) (hl:ds.length≤ah) (k:∀a,J a=none→vcS Sp gv r (fr (L.set i (.lref a))) (J.put a (.list ds)) Kn Kr Kb Kc KE):vcS Sp gv (.seq (.assign i (.list true xs)) r) (fr L) σ Kn Kr Kb Kc KE:=by
 refine h _ _ ⟨hl,fun a ha=>?_⟩;have:=k a ha;rw[←bh hi rfl] at this;exact this
theorem GB (he:Ev Sp gv m (σ.put a (.list xs)) e (.lref a) (σ.put a (.list xs))) (h:σ a=none):Ev Sp gv m (σ.put a (.list xs)) (.frz e) (.lst xs) σ:=
 gf he (jU h) (.lst (ai ..) h (fw xs))
theorem FR {a c j k:Nat} {z:Int} (hz:(c:Int)=z) (hj:j≤3) (hk:k<j) {xs:List V} (hx:xs.length<ah) {kk:V} {kn kb:(Nat→V)→Sto→Prop} (q:kn (fr [.int z,.int j,.lref a,.int k]) (σ.put a (.list (xs++[.int ((128+c/64^(j - 1 - k)%64:Nat):Int)])))):
  vcS Sp gvL fC.forB (upd (fr [.int z,.int j,.lref a,kk]) 3 (.int k)) (σ.put a (.list xs)) kn Kr kb kn KE:=by
 refine er (bh rfl rfl) ?_;have e1:(64:Int)^(j - 1 - k)=((64^(j - 1 - k):Nat):Int):=by rw[Int.natCast_pow];rfl
 have e3:(j:Int) - 1 - k=((j - 1 - k:Nat):Int):=by rw[Nat.sub_sub,Int.ofNat_sub (l5 1 k▸hk),Int.sub_sub];rfl
 have hp0:0<64^(j - 1 - k):=Nat.pow_pos (by decide);refine aE (bO (d:=.int ((128+c/64^(j - 1 - k)%64:Nat):Int)) kz (ai ..) (aB (M5:=.int ((c/64^(j - 1 - k)%64:Nat):Int)) kz (aB (M9:=.int ((c/64^(j - 1 - k):Nat):Int)) (aB (M5:=.int ((64^(j - 1 - k):Nat):Int)) kz (aB (M5:=.int ((j:Int) - 1 - k)) kz (aB (aB kz kz fun _ k=>k) kz fun _ k=>k) fun K h=>⟨⟨by lia,?_⟩,?_⟩) fun K h=>⟨⟨by lia,?_⟩,?_⟩) kz fun K h=>⟨by decide,?_⟩) fun K h=>?_) (ai ..) hx) ?_
 ·refine er e3 ?_;exact n8.mpr (b9 (l4 7 (b9 (F9 ..) (b9 (F9 ..) hj))) (by decide))
 ·rw[e3,r9,e1];exact h
 ·simp only[Int.natAbs_natCast];exact j0 (Nat.pow_le_pow_right (by decide) (b9 (F9 ..) (I8 hj 1)):64^(j - 1 - k)≤64^2) (by decide)
 ·rw[←hz,E2 _ (g9 _)];exact h
 ·rw[Int.fmod_eq_emod_of_nonneg _ (by decide)];exact h
 ·rw[Int.natCast_add] at h;exact h
 ·rw[aM];exact q
theorem nX {c j b:Nat} {z:Int} (hz:(c:Int)=z) (hj:1≤j∧j≤3) (hb:[0,192,224,240][j]?=some b) {K:Kx} {KE:Ke} {u:V} (q:K (.lst (bu ((b+c/64^j)::(List.range j).map fun k=>128+c/64^(j - 1 - k)%64))) σ):
  vcS Sp gvL fC.aft2 (fr [.int z,.int j,.unb,.unb]) σ (fun _ M1=>K .none M1) K (fun _ _=>False) (fun _ _=>False) (fun _=>KE):=by
 have hp0:0<64^j:=Nat.pow_pos (by decide);have e1:(64:Int)^j=((64^j:Nat):Int):=by rw[Int.natCast_pow];rfl
 refine Jk (L:=[.int z,.int j,.unb,.unb]) (ds:=[.int ((b+c/64^j:Nat):Int)]) rfl (evp (aB (M9:=.int b) (M5:=.int ((c/64^j:Nat):Int)) (dZ (d:=.lst [.int 0,.int 192,.int 224,.int 240]) (ba kz) kz fun K h=>?_) (aB (M5:=.int ((64^j:Nat):Int)) kz (aB kz kz fun K h=>⟨⟨by lia,?_⟩,?_⟩) fun K h=>⟨⟨by lia,?_⟩,?_⟩) fun K h=>?_) au) (show 1≤ah by decide) fun a ha=>?_
 ·rcases (show j=1∨j=2∨j=3 by lia) with rfl|rfl|rfl<;>(cases hb;exact h)
 ·exact n8.mpr (b9 (l4 7 hj.2) (by decide))
 ·rw[r9,e1];exact h
 ·simp only[Int.natAbs_natCast];exact j0 (Nat.pow_le_pow_right (by decide) hj.2) (by decide)
 ·rw[←hz,E2 _ (g9 _)];exact h
 ·rw[Int.natCast_add] at h;exact h
 refine gZ kz kz (jc (b9 hj.2 (by decide))) ?_;have T:∀(n k:Nat) (kk:V),k+n=j→fY 3 (fun _=>True) (fun m σ kn kb=>vcS Sp gvL fC.forB m σ kn K kb kn fun _=>KE) (fun m σ=>vcS Sp gvL fC.aft m σ (fun _ M1=>K .none M1) K (fun _ _=>False) (fun _ _=>False) (fun _=>KE)) ((List.range' k n).map fun(k:Nat)=>V.int (k:Int)) (fr [.int z,.int j,.lref a,kk]) (σ.put a (.list (.int ((b+c/64^j:Nat):Int)::bu ((List.range k).map fun k=>128+c/64^(j - 1 - k)%64)))):=by
  intro n
  induction n with
  |zero=>
   intro k kk hk;obtain rfl:k=j:=hk;refine er List.range'_zero (er List.map_nil (er bH ?_));exact bB (GB kz ha) q
  |succ n ih=>
   intro k kk hk;simp only[w9,j3]
   first|rw[bx]|rw[bH]
   have hk1:k+1+n=j:=(t4 k n).trans hk;have hkj:k<j:=hk1▸f6 ..;refine FR hz hj.2 hkj ?_ ⟨trivial,?_⟩
   ·unfold bu;simp only[c6,f7,f7,A1];exact j0 (b9 hkj hj.2) (by decide)
   ·have:=ih (k+1) (.int k) hk1;unfold bu at this⊢;simp only[List.range_succ,p0,p0] at this;exact this
 have:=T j 0 .unb (C9 j);simp only[←K2] at this;exact this
theorem m64 (c:Nat):c%64=c/64^0%64:=by rw[Nat.pow_zero,Nat.div_one]
theorem EA {ds:List V} {K:Kx} {KE:Ke} (h:fM ds σ K KE):Wlk Sp fC ds σ K KE:=by
 refine eQ h fun c z1_ hc k=>?_;subst z1_;generalize hz:(c:Int)=z;refine bk 3 ?_;unfold hZ at k;refine aV (et_cmp kz kz rfl) (fun t=>?_) fun t=>?_
 ·rw[i7 (ltI (n:=128) (hz.symm▸t))] at k;refine bB (gf (ba (evp kz au)) (fun _ _ e=>e) (.same _)) ?_;rw[←hz];exact k
 rw[i3 (geI (n:=128) (hz.symm▸t))] at k;by_cases q1:c<2048
 ·rw[i7 q1] at k;refine ak (d:=.int (1:Nat)) (L':=[.int z,.int (1:Nat),.unb,.unb]) (bD (t:=decide (z<2048)) (et_cmp kz kz rfl) (fun _=>kz) fun t=>?_) rfl rfl (nX (b:=192) (u:=.none) hz ⟨f3 _,by decide⟩ rfl ?_)
  ·exact absurd q1 (geI (n:=2048) (hz.symm▸t))
  ·rw[m64 c] at k;exact k
 rw[i3 q1] at k;by_cases q2:c<65536
 ·rw[i7 q2] at k;refine ak (d:=.int (2:Nat)) (L':=[.int z,.int (2:Nat),.unb,.unb]) (bD (t:=decide (z<2048)) (et_cmp kz kz rfl) (fun t=>?_) fun _=>bD (t:=decide (z<65536)) (et_cmp kz kz rfl) (fun _=>kz) fun t=>?_) rfl rfl (nX (b:=224) (u:=.none) hz ⟨by decide,by decide⟩ rfl ?_)
  ·exact absurd (ltI (n:=2048) (hz.symm▸t)) q1
  ·exact absurd q2 (geI (n:=65536) (hz.symm▸t))
  ·rw[m64 c] at k;exact k
 rw[i3 q2] at k;refine ak (d:=.int (3:Nat)) (L':=[.int z,.int (3:Nat),.unb,.unb]) (bD (t:=decide (z<2048)) (et_cmp kz kz rfl) (fun t=>?_) fun _=>bD (t:=decide (z<65536)) (et_cmp kz kz rfl) (fun t=>?_) fun _=>kz) rfl rfl (nX (b:=240) (u:=.none) hz ⟨by decide,by decide⟩ rfl ?_)
 ·exact absurd (ltI (n:=2048) (hz.symm▸t)) q1
 ·exact absurd (ltI (n:=65536) (hz.symm▸t)) q2
 ·rw[m64 c] at k;exact k
end
end
noncomputable def fN:List (List Nat):=[[40],[41],[97],[105,51,50,46,97,100,100],[111,102,102,115,101,116,61,56],[36],[36,120],[36,97,33],[48],[55],[49,50],[95],[48,120],[102],[70],[45],[43],[49,95,48],[52,50,57,52,57,54,55,50,57,53],[52,50,57,52,57,54,55,50,57,54],[45,50,49,52,55,52,56,51,54,52,57],[45,48,120,56,48,48,48,95,48,48,48,48],[43,50,49,52,55,52,56,51,54,52,56],[50,49,52,55,52,56,51,54,52,56],[48,120,55,102,102,102,95,102,102,102,102,95,102,102,102,102,95,102,102,102,102],[45,57,50,50,51,51,55,50,48,51,54,56,53,52,55,55,53,56,48,56],[49,56,52,52,54,55,52,52,48,55,51,55,48,57,53,53,49,54,49,54],[43,57,50,50,51,51,55,50,48,51,54,56,53,52,55,55,53,56,48,56],[34,34],[34,97,98,34],[34,92,110,92,116,92,114,34],[34,92,48,48,92,102,70,34],[34,92,117,123,50,48,95,97,67,125,34],[34,92,34,92,39,92,92,34],[34,40,59,233,59,59,34],[34,8364,128512,34],[34,92,117,123,49,48,70,70,70,70,125,34],[59,59,32,34,40,59,10],[59,59],[40,59],[59,41],[40,59,32,40,59,32,59,41,32,59,59,32,59,41],[40,59,10,59,41],[9],[13],[13,10],[44],[91],[65],[61],[34],[92],[233],[34,92,113,34],[34,92,117,123,100,56,48,48,125,34],[34,92,117,123,49,49,95,48,48,48,48,125,34],[34,92,117,123,125,34],[34,9,34],[34,127,34],[34,92,52,34]]
noncomputable def cO (x:Int):List Nat:=fN.getD (x.fmod 60).toNat []
noncomputable def fE (x:Int):List Nat:=[[],[32],[10]].getD ((x.fdiv 60).fmod 3).toNat []
noncomputable def cR (l:List Int):List Nat:=l.flatMap fun x=>cO x++fE x
noncomputable def cx (l:List Int):List Int:=match l with|[]=>[0,67,86,1]|l=>l.take 32
noncomputable def nS:aP:=fun ds σ K KE=>ds=[]∧K (.lst (fN.map .str)) σ
noncomputable def uY:aP:=fun ds σ K KE=>∃l,ds=[.lst (l.map .int)]∧K (.str (cR (cx l))) σ
theorem yL:fN.all (fun p=>decide (p.length≤24)&&(decide (p.count 34≤3)&&p.all fun c=>decide (c<1114112)&&(decide (c<55296)||decide (57344≤c))))=true:=by decide+kernel
theorem Ll (x:Int):(x.fmod 60).toNat<60:=(x8 (C5 x (by decide))).mpr (Int.fmod_lt_of_pos x (by decide))
theorem lt3 (x:Int):(x.fmod 3).toNat<3:=(x8 (C5 x (by decide))).mpr (Int.fmod_lt_of_pos x (by decide))
theorem uG (x:Int):cO x∈fN:=by
 have h:(x.fmod 60).toNat<fN.length:=Ll x;unfold cO;refine er n7 (er (g7 h) ?_);exact List.getElem_mem h
theorem Ca (x:Int):(fE x).length≤1∧(fE x).count 34≤0∧∀c∈fE x,kT c:=by
 unfold fE;generalize ((x.fdiv 60).fmod 3).toNat=n;rcases n with _|_|_|n
 ·exact⟨g6 _,f3 _,nofun⟩
 ·exact⟨f3 _,f3 _,fun c hc=>by rw[j4.mp hc];exact⟨by decide,by decide⟩⟩
 ·exact⟨f3 _,f3 _,fun c hc=>by rw[j4.mp hc];exact⟨by decide,by decide⟩⟩
 ·exact⟨g6 _,f3 _,nofun⟩
theorem tB (x:Int):(cO x++fE x).length≤25∧(cO x++fE x).count 34≤3∧∀c∈cO x++fE x,kT c:=by
 refine am (d8.mp (j9.mp yL _ (uG x))) fun h1 h=>?_;refine am (d8.mp h) fun h2 h3=>?_;refine cQ (Ca x) fun a b g=>?_;refine er b0 (er y7 ?_);refine⟨t7 (c8 h1) a,t7 (c8 h2) b,fun c hc=>(m8.mp hc).elim (fun hc=>?_) (g c)⟩;refine am (d8.mp (j9.mp h3 c hc)) fun p q=>?_;exact⟨c8 p,fun z=>(l8.mp q).elim (fun q=>t8.mpr z.1 (c8 q)) fun q=>t8.mpr (c8 q) z.2⟩
theorem EM:∀l:List Int,(cR l).length≤25*l.length∧(cR l).count 34≤3*l.length∧∀c∈cR l,kT c:=by
 intro zz
 induction zz with
 |nil=>
  exact⟨f3 _,f3 _,fun c hc=>nomatch hc⟩
 |cons x l ih=>
  refine av fun gP gO=>?_;refine cQ (tB x) fun a1 a2 a3=>?_;have e:cR (x::l)=(cO x++fE x)++cR l:=rfl;refine gO ?_;refine er e (er b0 (er y7 (er c6 ?_)));exact⟨b9 (j8 (l5 _ _)) (t7 ih.1 a1),b9 (j8 (l5 _ _)) (t7 ih.2.1 a2),fun c hc=>(m8.mp hc).elim (a3 c) (ih.2.2 c)⟩
theorem oy (l:List Int):(cx l).length≤32:=by
 induction l with
 |nil=>decide
 |cons x l=>exact b9 (by rw[show cx (x::l)=(x::l).take 32 from rfl,List.length_take];exact Nat.min_le_left ..) (f3 _)
theorem iL (l:List Int):(cR (cx l)).length≤800∧(cR (cx l)).count 34≤96∧∀c∈cR (cx l),kT c:=by
 have q7:=EM (cx l);have:=oy l;exact⟨b9 q7.1 (l4 25 this),b9 q7.2.1 (l4 3 this),q7.2.2⟩
section
variable {gv:Nat→List Nat} {KE:(Nat→V)→Ke}
theorem BB {ds:List V} {K:Kx} {KE:Ke} (h:nS ds σ K KE):Wlk Sp rZ ds σ K KE:=by
 refine am h fun z0_ k=>?_;subst z0_;refine bk 6 ?_;refine ak (ba kz) rfl rfl ?_;refine ak (ba kz) rfl rfl ?_;refine ak (ba kz) rfl rfl ?_;refine ak (ba kz) rfl rfl ?_;refine ak (ba kz) rfl rfl ?_;refine ak (ba kz) rfl rfl ?_;exact bB (aB (aB (aB (aB (aB kz kz fun _ k=>⟨by decide,k⟩) kz fun _ k=>⟨by decide,k⟩) kz fun _ k=>⟨by decide,k⟩) kz fun _ k=>⟨by decide,k⟩) kz fun _ k=>⟨by decide,k⟩) k
theorem mJ (h0:0≤i) (h:l[i.toNat]?=some v) (k:K v σ):uQ (.lst l) (.int i) σ K:=by
 have e:(idx l.length i).bind (l[·]?)=some v:=by
  unfold idx;refine er (i7 h0) (er (i7 (i5.mp h).1) ?_);exact h
 exact IB (f:=fun v=>K v σ) e k
theorem qo {α:Type} {l:List α} {n:Nat} {d:α} (h:n<l.length):l[n]?=some (l.getD n d):=by
 rw[n7,g7 h];rfl
theorem yl {sc:V} {K:Kx} {KE:Ke}:∀(l:List Int) (acc:List Nat) (x:V),acc.length+25*l.length≤ah→K (.str (acc++cR l)) σ→
  fY 3 (fun _=>True) (fun m σ kn kb=>vcS Sp gvL jG.forB m σ kn K kb kn fun _=>KE) (fun m σ=>vcS Sp gvL jG.aft m σ (fun _ M1=>K .none M1) K (fun _ _=>False) (fun _ _=>False) (fun _=>KE)) (l.map .int) (fr [sc,.lst (fN.map .str),.str acc,x]) σ:=by
 intro l
 induction l with
 |nil=>
  intro acc x hl k;rw[show cR []=[] from rfl,d7] at k;refine er List.map_nil ?_
  first|rw[bx]|rw[bH]
  exact bB kz k
 |cons y l ih=>
  intro acc x hl k;simp only[j3]
  first|rw[bx]|rw[bH]
  refine er (bh rfl rfl) ?_;refine cQ (tB y) fun p1 _ _=>?_;rw[b0] at p1;have T:acc.length+(cO y).length+(fE y).length+25*l.length≤ah:=by
   refine b9 ?_ hl;rw[g5 acc.length,g5 acc.length];exact i6 (b9 (y3 p1 _) (j8 (l5 _ _))) _
  have T1:=b9 (f6 _ _) T;have h0:=C5 y (show(0:Int)<60 by decide);have g0:=C5 (y.fdiv 60) (show(0:Int)<3 by decide);have e1:(fN.map V.str)[(y.fmod 60).toNat]?=some (.str (cO y)):=by
   rw[v7,qo (d:=[]) (Ll y)];rfl
  have e2:[V.str [],.str [32],.str [10]][((y.fdiv 60).fmod 3).toNat]?=some (.str (fE y)):=by
   rw[show[V.str [],.str [32],.str [10]]=[[],[32],[10]].map V.str from rfl,v7,qo (d:=[]) (lt3 _)];rfl
  refine ak (d:=.str (acc++cO y++fE y)) (aB (M9:=.str (acc++cO y)) (M5:=.str (fE y)) (aB (M5:=.str (cO y)) kz (dZ (j:=.int (y.fmod 60)) kz (aB kz kz fun _ k=>⟨by decide,k⟩) fun _ k=>mJ h0 e1 k) fun _ k=>⟨b9 (f6 _ _) T1,k⟩) (dZ (j:=.int ((y.fdiv 60).fmod 3)) (ba kz) (aB (M9:=.int (y.fdiv 60)) (aB kz kz fun _ k=>⟨by decide,k⟩) kz fun _ k=>⟨by decide,k⟩) fun _ k=>mJ g0 e2 k) fun _ k=>⟨by rw[b0];exact T1,k⟩) rfl rfl ⟨trivial,ih _ _ ?_ ?_⟩
  ·rw[b0,b0];exact T
  ·rw[show cR (y::l)=(cO y++fE y)++cR l from rfl,←e9,←e9] at k;exact k
theorem IF (h24:Sp 24=nS) {ds:List V} {K:Kx} {KE:Ke} (h:uY ds σ K KE):Wlk Sp jG ds σ K KE:=by
 refine aj h fun l z1_ k=>?_;subst z1_;refine bk 3 ?_;refine aX (ds:=[.lst (fN.map .str),.str []]) (aK (ag (bt au fun K KE k=>h24▸⟨rfl,k⟩) (ag kz au)) rfl) rfl ?_;have hs:=oy l;refine gZ (d:=.lst ((cx l).map .int)) (J:=σ) (M2:=σ) ?_ kz (es:=(cx l).map .int) rfl (yl _ [] .unb (b9 (j8 (C9 _)) (b9 (l4 25 hs) (by decide))) k)
 induction l with
 |nil=>exact bD (t:=false) (et_cmp kz (ba kz) rfl) nofun fun _=>ba kz
 |cons x l=>
  refine bD (t:=true) (et_cmp kz (ba kz) rfl) (fun _=>eG (u:=.int (32:Nat)) kz kz kz fun K k=>?_) nofun;show K (.lst (cut ((x::l).map V.int) none (some (32:Nat)))) σ;rw[Bm,←List.map_take];exact k
end
theorem af {x l:List Nat} {n c:Nat} (h:x.drop n=c::l):x[n]?=some c∧n<x.length∧x.drop (n+1)=l:=by
 have h1:x[n]?=some c:=er (Eq.symm B9) (er h rfl);refine⟨h1,(i5.mp h1).1,?_⟩;rw[xM h1] at h;exact(j2 h).2
theorem aT {x a l:List Nat} {n:Nat} (h:x.drop n=a++l):x.drop (n+a.length)=l:=by
 exact er (Eq.symm List.drop_drop) (er h (er List.drop_left rfl))
theorem bM {x l:List Nat} {n:Nat} (h:x.drop n=l) (hn:n≤x.length):n+l.length=x.length:=by
 exact er (Eq.symm h) (er z4 (Nat.add_sub_of_le hn))
section
variable {KE:(Nat→V)→Ke} {d n fl:Nat} {x:List Nat}
theorem xF (h8:Sp 8=spHere):Ev Sp gvL (fr (.obj 0 d::L)) (lx σ d x n fl) (.mcall 8 (.var 0) .nil) (.str ((x.drop n).take 1)) (lx σ d x n fl):=
 kE kz rfl dX au fun K KE k=>h8▸⟨d,_,x,n,rfl,dX,rfl,rfl,k⟩
theorem zj (h9:Sp 9=spStarts):Et Sp gvL (fr (.obj 0 d::L)) (lx σ d x n fl) (.mcall 9 (.var 0) (.cons (.lit (.str w)) .nil)) (decide ((x.drop n).take w.length=w)):=
 Dw kz rfl dX (ag kz au) fun K KE k=>h9▸⟨d,_,x,n,w,rfl,dX,rfl,rfl,k⟩
theorem cC (h11:Sp 11=spStep) (hn:n<x.length):Ev Sp gvL (fr (.obj 0 d::L)) (lx σ d x n fl) (.mcall 11 (.var 0) .nil) .none (lx σ d x (n+1) fl):=
 kE kz rfl dX au fun K KE k=>h11▸⟨σ,d,x,n,fl,1,.inl ⟨rfl,rfl⟩,rfl,hn,by decide,k⟩
theorem kD (h11:Sp 11=spStep) (hn:n+2≤x.length):Ev Sp gvL (fr (.obj 0 d::L)) (lx σ d x n fl) (.mcall 11 (.var 0) (.cons (.lit (.int 2)) .nil)) .none (lx σ d x (n+2) fl):=
 kE kz rfl dX (ag kz au) fun K KE k=>h11▸⟨σ,d,x,n,fl,2,.inr rfl,rfl,hn,by decide,k⟩
theorem wW:Et Sp gvL (fr (.obj 0 d::L)) (lx σ d x n fl) (.cmp .lt (.attr (.var 0) 1) (.blt 0 (.attr (.var 0) 0))) (decide ((n:Int)<x.length)):=
 et_cmp (aU 1 rfl rfl) (dE (aU 0 rfl rfl) fun _ k=>k) rfl
def Wh (Sp:Nat→aP) (c:X) (b:S) (Kr:Kx) (KE:(Nat→V)→Ke) (Kn:(Nat→V)→Sto→Prop) (f:Nat) (m:Nat→V) (σ:Sto):Prop:=qC (fun m σ k=>vcT Sp gvL c m σ k (KE m)) (fun m σ kn kb=>vcS Sp gvL b m σ kn Kr kb kn KE) Kn f m σ
theorem dI (h:∃f,Wh Sp c b Kr KE (fun m σ=>vcS Sp gvL r m σ Kn Kr Kb Kc KE) f m σ):vcS Sp gvL (.seq (.while_ c b) r) m σ Kn Kr Kb Kc KE:=h
theorem fm (h:Et Sp gvL m σ c false) (k:Kn m σ):Wh Sp c b Kr KE Kn (f+1) m σ:=
 h (fun t J=>if t=true then vcS Sp gvL b m J (fun m' M1=>Wh Sp c b Kr KE Kn f m' M1) Kr Kn (fun m' M1=>Wh Sp c b Kr KE Kn f m' M1) KE else Kn m J) _ (er (i3 (by decide)) k)
theorem aL (h:Et Sp gvL m σ c true) (k:vcS Sp gvL b m σ (fun m' M1=>Wh Sp c b Kr KE Kn f m' M1) Kr Kn (fun m' M1=>Wh Sp c b Kr KE Kn f m' M1) KE):Wh Sp c b Kr KE Kn (f+1) m σ:=
 h (fun t J=>if t=true then vcS Sp gvL b m J (fun m' M1=>Wh Sp c b Kr KE Kn f m' M1) Kr Kn (fun m' M1=>Wh Sp c b Kr KE Kn f m' M1) KE else Kn m J) _ (er (i7 rfl) k)
end
def jB:List Nat→Prop|[]=>True|c::_=>c=10∨c=13
inductive spRow (ds:List V) (σ:Sto) (K:Kx) (KE:Ke):Prop
 |mk (M4:_) (d:_) (x:_) (n:_) (fl:_) (cs:_) (l:_) (h1:ds=[.obj 0 d]) (h2:σ=lx M4 d x n fl) (h3:n≤x.length) (h4:x.drop n=cs++l) (h5:(∀c∈cs,c≠10∧c≠13)) (h6:jB l) (h7:K .none (lx M4 d x (n+cs.length) fl)):spRow ds σ K KE
section
variable {KE:(Nat→V)→Ke} {d n fl:Nat} {x:List Nat}
theorem Bf (h8:Sp 8=spHere) {c:Nat} {l:List Nat} (h:x.drop n=c::l):Et Sp gvL (fr (.obj 0 d::L)) (lx σ d x n fl) (.and (.cmp .lt (.attr (.var 0) 1) (.blt 0 (.attr (.var 0) 0))) (.cmp .nin (.mcall 8 (.var 0) .nil) (.tup (.cons (.lit (.str [10])) (.cons (.lit (.str [13])) .nil))))) (!(decide (c=10)||decide (c=13))):=by
 have e:(!(decide (c=10)||decide (c=13)))=(decide ((n:Int)<x.length)&& !(decide ([10]=[c])||(decide ([13]=[c])||false))):=by
  have:=(af h).2.1;refine er (f9 (p:=(n:Int)<x.length) (by lia)) ?_;simp[eq_comm]
 simp only[e];refine et_and wW fun _=>et_cmp (d:=.str [c]) ?_ (aK kz rfl) rfl;have:=xF (Sp:=Sp) (σ:=σ) (d:=d) (x:=x) (n:=n) (fl:=fl) (L:=L) h8;rw[h] at this;exact this
theorem Cp (h8:Sp 8=spHere) (h11:Sp 11=spStep) {l:List Nat} (hl:jB l):∀(cs:List Nat) (n:Nat),n≤x.length→x.drop n=cs++l→(∀c∈cs,c≠10∧c≠13)→Kn (fr [.obj 0 d]) (lx σ d x (n+cs.length) fl)→
  ∃f,Wh Sp gU.whC gU.whB Kr KE Kn f (fr [.obj 0 d]) (lx σ d x n fl):=by
 intro zz
 induction zz with
 |nil=>
  intro n hn h _ k;refine⟨1,fm ?_ k⟩
  induction l with
  |nil=>
   have:=bM h hn;refine et_and (t:=false) (u:=false) ?_ nofun;simp only[←(c9 (by simp at this;lia):decide ((n:Int)<x.length)=false)];exact wW
  |cons c l=>
   have:=Bf (Sp:=Sp) (σ:=σ) (d:=d) (fl:=fl) (L:=[]) h8 h;have e:(!(decide (c=10)||decide (c=13)))=false:=by rcases hl with rfl|rfl<;>rfl
   simp only[e] at this;exact this
 |cons c cs ih=>
  intro n hn h hc k;have q7:=af h;rw[c6,l5 cs.length,←g5] at k;refine ar (ih (n+1) q7.2.1 q7.2.2 (fun c hc'=>hc c (.tail _ hc')) k) fun f hf=>?_;refine⟨f+1,aL ?_ ?_⟩
  ·have:=Bf (Sp:=Sp) (σ:=σ) (d:=d) (fl:=fl) (L:=[]) h8 h;have e:(!(decide (c=10)||decide (c=13)))=true:=by
    exact er (c9 (hc c (.head _)).1) (er (c9 (hc c (.head _)).2) rfl)
   simp only[e] at this;exact this
  ·exact aE (cC h11 q7.2.1) hf
theorem LG (h8:Sp 8=spHere) (h11:Sp 11=spStep) {ds:List V} {K:Kx} {KE:Ke} (h:spRow ds σ K KE):Wlk Sp gU ds σ K KE:=by
 obtain⟨M4,d,x,n,fl,cs,l,rfl,rfl,hn,h,hc,hl,k⟩:=h;exact dI (Cp h8 h11 hl cs n hn h hc k)
end
def JD (c:Nat) (cs:List Nat):Prop:=¬(c=40∧cs.head?=some 59)∧¬(c=59∧cs.head?=some 41)
inductive Bk:Nat→List Nat→Nat→Prop
 |nil (d:Nat):Bk d [] d
 |opn {d e:Nat} {cs:List Nat}:Bk (d+2) cs e→Bk (d+1) (40::59::cs) e
 |cls {d e:Nat} {cs:List Nat}:Bk d cs e→Bk (d+1) (59::41::cs) e
 |oth {d e c:Nat} {cs:List Nat}:JD c cs→Bk (d+1) cs e→Bk (d+1) (c::cs) e
theorem Bk.ne (h:Bk (d+1) cs 0):cs≠[]:=by
 rintro rfl;cases h
theorem mQ (h:σ a=none):Ext σ (σ.put a o):=fun b hb=>aA σ o fun z=>hb (z▸h)
inductive spBlock (ds:List V) (σ:Sto) (K:Kx) (KE:Ke):Prop
 |mk (M4:_) (d:_) (x:_) (n:_) (fl:_) (cs:_) (l:_) (e:_) (h1:ds=[.obj 0 d]) (h2:σ=lx M4 d x n fl) (h3:M4 d=none) (h4:n≤x.length) (h5:x.drop n=40::59::(cs++l)) (h6:Bk 1 cs e) (h7:(e=0∧K .none (lx M4 d x (n+2+cs.length) fl)∨e≠0∧l=[]∧∀M1,Ext M4 M1→KE (aY x n) (bI x n) M1)):spBlock ds σ K KE
section
variable {KE:(Nat→V)→Ke} {d n fl:Nat} {x:List Nat}
theorem dm (h9:Sp 9=spStarts) (h:x.drop n=l):Et Sp gvL (fr (.obj 0 d::L)) (lx σ d x n fl) (.mcall 9 (.var 0) (.cons (.lit (.str [a,b])) .nil)) (decide (l.take 2=[a,b])):=h▸zj h9
theorem qF {c a b:Nat} {cs l:List Nat} (h:¬(c=a∧(cs++l).head?=some b)):decide ((c::cs++l).take 2=[a,b])=false:=by
 refine c9 fun z=>h ?_;cases q:cs++l with
 |nil=>rw[u6,q] at z;cases z
 |cons e r=>rw[u6,q] at z;cases z;exact⟨rfl,rfl⟩
theorem wI (h9:Sp 9=spStarts) (h11:Sp 11=spStep) {row col:Int} {l:List Nat} {g:Nat} {cs:List Nat} {e:Nat} (hb:Bk g cs e):(e=0∨l=[])→∀n,n≤x.length→x.drop n=cs++l→
  (e=0→Kn (fr [.obj 0 d,.int row,.int col,.int (0:Nat)]) (lx σ d x (n+cs.length) fl))→(e≠0→∀m n,KE m row col (lx σ d x n fl))→
  ∃f,Wh Sp dS.whC dS.whB Kr KE Kn f (fr [.obj 0 d,.int row,.int col,.int (g:Nat)]) (lx σ d x n fl):=by
 have P (g n:Nat):Et Sp gvL (fr [.obj 0 d,.int row,.int col,.int (g:Nat)]) (lx σ d x n fl) (.cmp .gt (.var 3) (.lit (.int 0))) (decide ((g:Int)>0)):=et_cmp kz kz rfl;have Q (g n:Nat):Et Sp gvL (fr [.obj 0 d,.int row,.int col,.int (g:Nat)]) (lx σ d x n fl) (.cmp .ge (.attr (.var 0) 1) (.blt 0 (.attr (.var 0) 0))) (decide ((n:Int)≥x.length)):=et_cmp (aU 1 rfl rfl) (dE (aU 0 rfl rfl) fun _ k=>k) rfl;have P1 (g n:Nat):Et Sp gvL (fr [.obj 0 d,.int row,.int col,.int ((g+1:Nat):Int)]) (lx σ d x n fl) dS.whC true:=by
  have:=P (g+1) n;rw[f9 (by lia)] at this;exact this
 have Q1 (g n:Nat) (h:n<x.length):Et Sp gvL (fr [.obj 0 d,.int row,.int col,.int (g:Nat)]) (lx σ d x n fl) (.cmp .ge (.attr (.var 0) 1) (.blt 0 (.attr (.var 0) 0))) false:=by
  have:=Q g n;rw[c9 (by lia)] at this;exact this
 induction hb with
 |nil g=>
  intro he n hn h k1 k2;cases g with
  |zero=>
   refine⟨1,fm ?_ (k1 rfl)⟩;have:=P 0 n;rw[c9 (by lia)] at this;exact this
  |succ g=>
   refine⟨1,aL (P1 g n) ?_⟩;have:l=[]:=he.resolve_left (by lia);subst this;have:=bM h hn;refine aV (t:=true) ?_ (fun _=>dJ kz kz kz (k2 (by lia) _ n)) nofun;have q:=Q (g+1) n;rw[f9 (by simp at this;lia)] at q;exact q
 | @opn g e cs hb ih=>
  intro he n hn h k1 k2;refine cQ (af h) fun h1 h2 h3=>?_;refine cQ (af h3) fun h4 h5 h6=>?_;refine ar (ih he (n+2) (by lia) h6 (fun z=>by have:=k1 z;rw[show n+(40::59::cs).length=n+2+cs.length by rw[c6,c6];lia] at this;exact this) k2) fun f hf=>?_;refine⟨f+1,aL (P1 g n) ?_⟩;refine aV (Q1 _ n h2) nofun fun _=>?_;refine aD (dm h9 h) (fun _=>?_) fun t=>(g8 t rfl).elim;exact ak (d:=.int ((g+2:Nat):Int)) (aB kz kz fun _ k=>k) rfl rfl (aE (kD h11 (by lia)) hf)
 | @cls g e cs hb ih=>
  intro he n hn h k1 k2;refine cQ (af h) fun h1 h2 h3=>?_;refine cQ (af h3) fun h4 h5 h6=>?_;refine ar (ih he (n+2) (by lia) h6 (fun z=>by have:=k1 z;rw[show n+(59::41::cs).length=n+2+cs.length by rw[c6,c6];lia] at this;exact this) k2) fun f hf=>?_;refine⟨f+1,aL (P1 g n) ?_⟩;refine aV (Q1 _ n h2) nofun fun _=>?_;refine aD (dm h9 h) (fun t=>nomatch c8 t) fun _=>?_;refine aD (dm h9 h) (fun _=>?_) fun t=>(g8 t rfl).elim;exact ak (d:=.int (g:Int)) (aB kz kz fun _ k=>by
   show opV .sub (.int ((g:Int)+1)) (.int 1) _ _;rw[show(g:Int)=(g:Int)+1 - 1 by lia] at k;exact k) rfl rfl (aE (kD h11 (by lia)) hf)
 | @oth g e c cs hc hb ih=>
  intro he n hn h k1 k2;refine cQ (af h) fun h1 h2 h3=>?_;refine ar (ih he (n+1) (by lia) h3 (fun z=>by have:=k1 z;rw[show n+(c::cs).length=n+1+cs.length by rw[c6];lia] at this;exact this) k2) fun f hf=>?_;have hh:(cs++l).head?=cs.head?:=by
   induction cs with
   |cons _ _=>rfl
   |nil=>
    have:e≠0:=fun z=>by subst z;exact hb.ne rfl
    rw[he.resolve_left this];rfl
  refine⟨f+1,aL (P1 g n) ?_⟩;refine aV (Q1 _ n h2) nofun fun _=>?_;refine aD (dm h9 h) (fun t=>nomatch t.symm.trans (qF (hh▸hc.1))) fun _=>?_;refine aD (dm h9 h) (fun t=>nomatch t.symm.trans (qF (hh▸hc.2))) fun _=>?_;exact aE (cC h11 h2) hf
theorem EE (h9:Sp 9=spStarts) (h11:Sp 11=spStep) {ds:List V} {K:Kx} {KE:Ke} (h:spBlock ds σ K KE):Wlk Sp dS ds σ K KE:=by
 obtain⟨M4,d,x,n,fl,cs,l,e,rfl,rfl,hd,hn,h,hb,k⟩:=h;refine bk 3 ?_;refine av fun gP gO=>?_;refine cQ (af h) fun h1 h2 h3=>?_;refine cQ (af h3) fun h4 h5 h6=>?_;refine gO ?_;refine aX (ds:=[.int (aY x n),.int (bI x n),.int (1:Nat)]) (aK (ag (aU 2 rfl rfl) (ag (aU 3 rfl rfl) (ag kz au))) rfl) rfl ?_;refine aE (kD h11 (by lia)) ?_;refine dI (wI h9 h11 hb (k.imp And.left fun z=>z.2.1) (n+2) (by lia) h6 (fun z=>?_) fun z m n=>?_)
 ·rcases k with k|k
  ·exact k.2
  ·exact absurd z k.1
 ·rcases k with k|k
  ·exact absurd k.1 z
  ·exact k.2.2 _ (mQ hd)
end
noncomputable def hxB (c:Nat):Bool:=bU.contains c||decide (c=95)
def fR (l:List Nat):Prop:=∀c,l.head?=some c→hxB c=false
def mZ (i:Int):Prop:=i<1114112∧¬(55296≤i∧i<57344)
def nh (ds l:List Nat) (i:Int):Prop:=l.head?=some 125∧dC 16 ds=some i∧mZ i
theorem cM:∀c∈bU,0≤eR c:=by decide
theorem lL:∀c∈bU,c≠10∧c≠13:=by decide
set_option tactic.hygienic true in
theorem vC (hb:0≤b) (hd:∀c∈ds,c∈bU):∀(l:List Nat) (f:Int) (w:Bool) (i:Int),0≤f→wgo b ds l f w=some i→0≤i:=by
 intro zz
 induction zz with
 |nil=>
  intro f w i hf h
  first|rw[ft] at h|rw[rc] at h
  cases w<;>cases h;exact hf
 |cons c l ih=>
  intro f w i hf h
  first|rw[ft] at h|rw[rc] at h
  split at h
  ·cases w
   ·cases h
   ·exact ih f false i hf h
  ·split at h
   ·rename_i q
    have:=cM c (hd c (d6.mp q));exact ih _ true i (Int.add_nonneg (Int.mul_nonneg hf hb) this) h
   ·cases h
theorem dQ (h:dC b l=some i):0≤i:=
 vC (g9 _) (fun c hc=>oj (d6.mpr hc)) l 0 false i (by decide) h
theorem cL (h:x[n]?=some c) (hc:c≠10∧c≠13):aY x (n+1)=aY x n:=by
 refine(vb ?_).1;unfold cP;refine er h ?_;rw[(c9 fun z=>hc.1 (c7 z)),(c9 fun z=>hc.2 (c7 z))];rfl
theorem qc:∀(u l:List Nat) (n:Nat),x.drop n=u++l→(∀c∈u,c≠10∧c≠13)→aY x (n+u.length)=aY x n:=by
 intro zz
 induction zz with
 |nil=>
  intro l n h hc;exact rfl
 |cons c u ih=>
  intro l n h hc;rw[c6,l5 u.length,←g5,ih l (n+1) (af h).2.2 fun c hc'=>hc c (.tail _ hc'),cL (af h).1 (hc c (.head _))]
inductive spPoint (ds:List V) (σ:Sto) (K:Kx) (KE:Ke):Prop
 |mk (M4:_) (d:_) (x:_) (n:_) (fl:_) (l:_) (h1:ds=[.obj 0 d]) (h2:σ=lx M4 d x n fl) (h3:M4 d=none) (h4:n≤x.length) (h5:x.length≤aH) (h6:x.drop n=117::l) (h7:(l.head?≠some 123∧(∀c M1,Ext M4 M1→KE (aY x n) c M1)∨∃us r,l=123::(us++r)∧(∀c∈us,hxB c=true)∧fR r∧((∃i,nh us r i∧K (.bytes (hZ i.toNat)) (lx M4 d x (n+3+us.length) fl))∨(¬∃i,nh us r i)∧∀c M1,Ext M4 M1→KE (aY x n) c M1))):spPoint ds σ K KE
section
variable {KE:(Nat→V)→Ke} {d n fl:Nat} {x:List Nat}
theorem jC (h10:Sp 10=spFail) (k:KE (fr (.obj 0 d::L)) (aY x n) (bI x n) (lx σ d x n fl)):vcS Sp gvL (.seq (.expr (.mcall 10 (.var 0) (.cons (.lit (.str w)) .nil))) r) (fr (.obj 0 d::L)) (lx σ d x n fl) Kn Kr Kb Kc KE:=
 vc_mcall (K:=fun _ J=>vcS Sp gvL r (fr (.obj 0 d::L)) J Kn Kr Kb Kc KE) kz rfl dX (ag kz au) (h10▸⟨σ,d,x,n,fl,w,rfl,rfl,k⟩)
theorem aW (h8:Sp 8=spHere) (h:x.drop n=l):Ev Sp gvL (fr (.obj 0 d::L)) (lx σ d x n fl) (.mcall 8 (.var 0) .nil) (.str (l.take 1)) (lx σ d x n fl):=h▸xF h8
theorem Di (h8:Sp 8=spHere) (h11:Sp 11=spStep) (hl:fR l):∀(us:List Nat) (n:Nat),x.drop n=us++l→(∀c∈us,hxB c=true)→Kn (fr [.obj 0 d,b,.unb]) (lx σ d x (n+us.length) fl)→
  ∃f,Wh Sp dT.whC dT.whB Kr KE Kn f (fr [.obj 0 d,b,.unb]) (lx σ d x n fl):=by
 intro zz
 induction zz with
 |nil=>
  intro n h _ k;refine⟨1,fm ?_ k⟩
  induction l with
  |nil=>exact et_and (t:=false) (u:=false) (et_cmp (aW h8 h) kz rfl) nofun
  |cons c l=>
   have hc:=hl c rfl;refine et_and (t:=true) (u:=false) (et_cmp (aW h8 h) kz rfl) fun _=>?_;simp only[←hc];exact et_or (et_cmp (aW h8 h) kz rfl) fun _=>et_cmp (aW h8 h) kz (congrArg some fg)
 |cons c us ih=>
  intro n h hc k;rw[c6,l5 us.length,←g5] at k;refine ar (ih (n+1) (af h).2.2 (fun c hc'=>hc c (.tail _ hc')) k) fun f hf=>?_;refine⟨f+1,aL ?_ (aE (cC h11 (af h).2.1) hf)⟩;refine et_and (t:=true) (u:=true) (et_cmp (aW h8 h) kz rfl) fun _=>?_;simp only[←(hc c (.head _))];exact et_or (et_cmp (aW h8 h) kz rfl) fun _=>et_cmp (aW h8 h) kz (congrArg some fg)
theorem qn (h:hxB c=true):c≠10∧c≠13:=by
 rcases l8.mp h with h|h
 ·exact lL c (d6.mp h)
 ·have:=c8 h;subst this;decide
theorem Jo (h1:Sp 1=gG) (h8:Sp 8=spHere) (h10:Sp 10=spFail) (h11:Sp 11=spStep) (h:x.drop n=r) (hnn:∀i,num=some i→0≤i) (ok:∀i,num=some i→mZ i→r.head?=some 125→Kr (.bytes (hZ i.toNat)) (lx σ d x (n+1) fl))
  (no:(¬∃i,num=some i∧mZ i∧r.head?=some 125)→∀m c,KE m (aY x n) c (lx σ d x n fl)):vcS Sp gvL dT.aft.aft1 (fr [.obj 0 d,b,dy num]) (lx σ d x n fl) Kn Kr Kb Kc KE:=by
 have H:∃t,Et Sp gvL (fr [.obj 0 d,b,dy num]) (lx σ d x n fl) (.cmp .ne (.mcall 8 (.var 0) .nil) (.lit (.str [125]))) t∧(t=false↔r.head?=some 125):=by
  induction r with
  |nil=>exact⟨true,et_cmp (aW h8 h) kz rfl,nofun,nofun⟩
  |cons c r=>
   refine⟨!decide ([c]=[125]),et_cmp (aW h8 h) kz rfl,fun t=>?_,fun t=>?_⟩
   ·rw[(j2 (c8 (nf t))).1];rfl
   ·rw[c7 t];rfl
 obtain⟨t,H1,H2⟩:=H
 induction num with
 |none=>exact aV (t:=true) (et_or (t:=true) (u:=t) kz nofun) (fun _=>jC h10 (no (fun⟨_,z,_⟩=>noS z) _ _)) nofun
 |some i=>
  have i0:=hnn i rfl;refine aV (t:=t) (et_or (t:=false) kz fun _=>H1) (fun q=>jC h10 (no (fun⟨_,_,_,z⟩=>noT ((H2.mpr z).symm.trans q)) _ _)) fun q=>?_;have h125:=H2.mp q;refine aV (t:=decide (i≥1114112)||(decide (55296≤i)&&decide (i<57344))) (et_or kz fun _=>et_cmp2 kz kz kz rfl rfl) (fun q=>jC h10 (no (fun⟨j,e,v,_⟩=>?_) _ _)) fun q=>?_
  ·simp only[←c7 e] at v;simp only[z7,I3,o5,o5,o5] at q;exact q.elim (fun q=>by have:=v.1;lia) v.2
  simp only[m4,Bool.and_eq_false_iff,t5,t5,t5] at q;have hv:mZ i:=⟨by lia,by lia⟩;have k:=ok i rfl hv h125
  induction r with
  |nil=>exact noS h125
  |cons c r=>
   exact aE (cC h11 (af h).2.1) (bB (d:=.bytes (hZ i.toNat)) (bt (ag (dE (v:=.str [i.toNat]) kz fun K k=>⟨⟨i0,by have:=hv.1;lia⟩,k⟩) au) fun K KE k=>h1▸⟨i.toNat,rfl,⟨by have:=hv.1;lia,fun z=>hv.2 ⟨by lia,by lia⟩⟩,k⟩) k)
theorem Ew (h1:Sp 1=gG) (h3:Sp 3=iO) (h8:Sp 8=spHere) (h10:Sp 10=spFail) (h11:Sp 11=spStep) {ds:List V} {K:Kx} {KE:Ke} (h:spPoint ds σ K KE):Wlk Sp dT ds σ K KE:=by
 obtain⟨M4,d,x,n,fl,l,rfl,rfl,hd,hn,hx,h,k⟩:=h;refine bk 2 ?_;obtain⟨a1,a2,a3⟩:=af h;refine aE (cC h11 a2) ?_;rcases k with ⟨hh,k⟩|⟨us,r,e,hus,hr,k⟩
 ·refine aV (t:=true) ?_ (fun _=>jC h10 (by rw[(cL a1 (by decide))];exact k _ _ (mQ hd))) nofun
  induction l with
  |nil=>exact et_cmp (aW h8 a3) kz rfl
  |cons c l=>
   have e:(!decide ([c]=[123]))=true:=by
    rw[fg,c9 fun z=>hh (congrArg some z)];rfl
   simp only[←e];exact et_cmp (aW h8 a3) kz rfl
 simp only[e] at a3;have q7:=af a3;refine aV (t:=false) (et_cmp (aW h8 a3) kz rfl) nofun fun _=>?_;refine aE (cC h11 q7.2.1) ?_;refine ak (aU 1 rfl rfl) (L':=[.obj 0 d,.int (n+1+1:Nat),.unb]) rfl rfl ?_;refine dI (Di h8 h11 hr us (n+1+1) q7.2.2 hus ?_);have r3:aY x (n+1+1+us.length)=aY x n:=by rw[qc us r _ q7.2.2 fun c hc=>qn (hus c hc),(cL q7.1 (by decide)),(cL a1 (by decide))]
 refine ak (d:=dy (dC 16 us)) (L':=[.obj 0 d,.int (n+1+1:Nat),dy (dC 16 us)]) (bt (ag (gd (aU 0 rfl rfl) kz (aU 1 rfl rfl)) (ag kz au)) fun K KE k=>h3▸⟨us,16,?_,.inr rfl,k⟩) rfl rfl ?_
 ·rw[q7.2.2,j7,z6];rfl
 refine Jo h1 h8 h10 h11 (aT q7.2.2) (fun i hi=>dQ hi) (fun i hi hv hq=>?_) fun z m c=>?_
 ·rcases k with ⟨j,⟨u1,u2,u3⟩,k⟩|⟨k1,k⟩
  ·refine er (show n+1+1+us.length+1=n+3+us.length by lia) (er (c7 (hi.symm.trans u2)) ?_);exact k
  ·exact absurd ⟨i,hq,hi,hv⟩ k1
 ·rcases k with ⟨i,⟨u1,u2,u3⟩,k⟩|⟨k1,k⟩
  ·exact absurd ⟨i,u2,u3,u1⟩ z
  ·rw[r3];exact k _ _ (mQ hd)
end
inductive Es:List Nat→Option (List Nat×Nat)→Prop
 |sim {b:Nat} {v:Int} {l:List Nat}:bP b=some v→Es (b::l) (some ([v.toNat],1))
 |hex {a b:Nat} {l:List Nat}:a∈bU→b∈bU→Es (a::b::l) (some ([(eR a*16+eR b).toNat],2))
 |uni {us r:List Nat} {i:Int}:(∀c∈us,hxB c=true)→fR r→nh us r i→Es (117::123::(us++r)) (some (hZ i.toNat,us.length+3))
 |badU {l:List Nat}:l.head?≠some 123→Es (117::l) none
 |badV {us r:List Nat}:(∀c∈us,hxB c=true)→fR r→(¬∃i,nh us r i)→Es (117::123::(us++r)) none
 |bad {l:List Nat}:(∀b,l.head?=some b→bP b=none∧b≠117)→(∀a b r,l=a::b::r→¬(a∈bU∧b∈bU))→Es l none
def Io (o:Option (List Nat×Nat)) (M4:Sto) (d:Nat) (x:List Nat) (n fl:Nat) (K:Kx) (KE:Ke):Prop:=match o with
 |some (o,k)=>K (.bytes o) (lx M4 d x (n+1+k) fl)
 |none=>∀c M1,Ext M4 M1→KE (aY x n) c M1
inductive spEsc (ds:List V) (σ:Sto) (K:Kx) (KE:Ke):Prop
 |mk (M4:_) (d:_) (x:_) (n:_) (fl:_) (l:_) (o:_) (h1:ds=[.obj 0 d]) (h2:σ=lx M4 d x n fl) (h3:M4 d=none) (h4:n≤x.length) (h5:x.length≤aH) (h6:x.drop n=92::l) (h7:Es l o) (h8:Io o M4 d x n fl K KE):spEsc ds σ K KE
theorem lg {p:Prop} [Decidable p] {a v:Int} {o:Option Int} (h:(if p then some a else o)=some v) (h1:0≤a∧a<256) (h2:o=some v→0≤v∧v<256):0≤v∧v<256:=by
 by_cases q:p
 ·rw[i7 q] at h;exact c7 h▸h1
 ·rw[i3 q] at h;exact h2 h
theorem qW {b:Nat} {v:Int} (h:bP b=some v):0≤v∧v<256:=
 lg h (by decide) fun h=>lg h (by decide) fun h=>lg h (by decide) fun h=>lg h (by decide) fun h=>lg h (by decide) fun h=>lg h (by decide) fun h=>noS h
theorem fP:∀c∈bU,bP c=none∧c≠117∧c≠95∧eR c≤15:=by decide
theorem Av (ha:a∈bU) (hb:b∈bU):dC 16 [a,b]=some (eR a*16+eR b):=by
 unfold dC;refine er ft (er ((d6.mpr ha:(fe 16).contains a=true)) (er (c9 (fP a ha).2.2.1) ?_));dsimp only;rw[ft,(d6.mpr hb:(fe 16).contains b=true),c9 (fP b hb).2.2.1,Int.zero_mul,Int.zero_add];rfl
section
variable {KE:(Nat→V)→Ke} {d n fl:Nat} {x:List Nat}
theorem Bc (h:Ev Sp gvL m σ e (.int i) σ) (h0:0≤i) (h1:i<256):Ev Sp gvL m σ (.blt 3 (.list false (.cons e .nil))) (.bytes [i.toNat]) σ:=
 dE (ba (evp h au)) fun _ k=>⟨fun j hj=>by rw[j4.mp hj];exact⟨h0,h1⟩,k⟩
end
noncomputable def sM (d:Nat) (l:List Nat) (v:V):List V:=[.obj 0 d,.str (l.take 1),v]
section
variable {KE:(Nat→V)→Ke} {d n fl a b:Nat} {x l:List Nat}
theorem Al (h:∀b,l.head?=some b→bP b=none):Et Sp gvL (fr (sM d l v)) σ (.inEsc (.var 1)) false:=by
 induction l with
 |nil=>exact kz
 |cons b l=>
  intro K KE k;show K (bP b).isSome _;rw[h b rfl];exact k
theorem HT (h:l.head?≠some 117):Et Sp gvL (fr (sM d l v)) σ (.cmp .eq (.var 1) (.lit (.str [117]))) false:=by
 induction l with
 |nil=>exact kz
 |cons b l=>
  have:decide ([b]=[117])=false:=by rw[fg];exact c9 fun z=>h (congrArg some z)
  simp only[←this];exact kz
theorem Lq (h:x.drop n=l):Ev Sp gvL (fr (.obj 0 d::L)) (lx σ d x n fl) (.slice (.attr (.var 0) 0) (.attr (.var 0) 1) (.bin .add (.attr (.var 0) 1) (.lit (.int 2)))) (.str (l.take 2)) (lx σ d x n fl):=by
 have:=gd (Sp:=Sp) (gv:=gvL) (m:=fr (.obj 0 d::L)) (σ:=lx σ d x n fl) (a:=.attr (.var 0) 0) (lo:=.attr (.var 0) 1) (hi:=.bin .add (.attr (.var 0) 1) (.lit (.int 2))) (n:=n) (k:=n+2) (aU 0 rfl rfl) (aU 1 rfl rfl) (aB (aU 1 rfl rfl) kz fun _ k=>k);simp only[h,j7] at this;exact this
theorem Kh (h11:Sp 11=spStep) (h:x.drop n=b::l) (hv:bP b=some v) (k:Kr (.bytes [v.toNat]) (lx σ d x (n+1) fl)):vcS Sp gvL fB.aft2 (fr (sM d (b::l) .unb)) (lx σ d x n fl) Kn Kr Kb Kc KE:=by
 refine aV (t:=(bP b).isSome) kz (fun _=>?_) fun t=>by rw[hv] at t;exact noT t.symm
 refine aE (cC h11 (af h).2.1) (bB (Bc (fun K KE k=>?_) (qW hv).1 (qW hv).2) k);show cS (bP b) fun i=>K (.int i) _;rw[hv];exact k
theorem HU:Et Sp gvL (fr (.obj 0 d:: .str [a]:: .str [a,b]::L)) σ (.or (.cmp .lt (.blt 0 (.var 2)) (.lit (.int 2))) (.or (.cmp .nin (.sub (.var 2) (.lit (.int 0))) (.gstr 1)) (.cmp .nin (.sub (.var 2) (.lit (.int 1))) (.gstr 1)))) (false||(!bU.contains a|| !bU.contains b)):=
 et_or kz fun _=>et_or (et_cmp (eO (n:=0) (x:=[a,b]) kz kz rfl) kz rfl) fun _=>et_cmp (eO (n:=1) (x:=[a,b]) kz kz rfl) kz rfl
theorem Ki (h3:Sp 3=iO) (h11:Sp 11=spStep) (h:x.drop n=a::b::l) (ha:a∈bU) (hb:b∈bU) (k:Kr (.bytes [(eR a*16+eR b).toNat]) (lx σ d x (n+2) fl)):vcS Sp gvL fB.aft2 (fr (sM d (a::b::l) .unb)) (lx σ d x n fl) Kn Kr Kb Kc KE:=by
 have H:=fP a ha;refine aV (Al fun b h=>by rw[←c7 h];exact H.1) nofun fun _=>?_;refine aV (HT fun z=>H.2.1 (c7 z)) nofun fun _=>?_;refine ak (Lq h) (L':=[.obj 0 d,.str [a],.str [a,b]]) rfl rfl ?_;refine aV HU (fun t=>?_) fun _=>?_
 ·rw[d6.mpr ha,d6.mpr hb] at t;exact noT t
 ·have q1:=cM a ha;have q2:=cM b hb;have q3:=H.2.2.2;have q4:=(fP b hb).2.2.2;exact aE (kD h11 ((af (af h).2.2).2.1)) (bB (Bc (bt (ag (d:=.str [a,b]) kz kz) fun K KE k=>h3▸⟨[a,b],16,rfl,.inr rfl,by rw[Av ha hb];exact k⟩) (by lia) (by lia)) k)
theorem Am (h14:Sp 14=spPoint) (k:spPoint [.obj 0 d] (lx σ d x n fl) Kr (KE (fr (sM d (117::l) .unb)))):vcS Sp gvL fB.aft2 (fr (sM d (117::l) .unb)) (lx σ d x n fl) Kn Kr Kb Kc KE:=by
 refine aV (Al fun b h=>by rw[←c7 h];rfl) nofun fun _=>?_;refine aV (t:=true) kz (fun _=>?_) nofun;exact vc_mcall kz rfl dX au (h14▸k)
theorem Kj (h10:Sp 10=spFail) (h:x.drop n=l) (u1:∀b,l.head?=some b→bP b=none∧b≠117) (u2:∀a b r,l=a::b::r→¬(a∈bU∧b∈bU)) (k:∀m c,KE m (aY x n) c (lx σ d x n fl)):vcS Sp gvL fB.aft2 (fr (sM d l .unb)) (lx σ d x n fl) Kn Kr Kb Kc KE:=by
 refine aV (Al fun b h=>(u1 b h).1) nofun fun _=>?_;refine aV (HT fun z=>(u1 _ z).2 rfl) nofun fun _=>?_;refine ak (Lq h) (L':=[.obj 0 d,.str (l.take 1),.str (l.take 2)]) rfl rfl ?_;refine aV (t:=true) ?_ (fun _=>jC h10 (k _ _)) nofun;cases l with
 |nil=>exact et_or (t:=true) (u:=false) kz nofun
 |cons a l=>induction l with
  |nil=>exact et_or (t:=true) (u:=false) kz nofun
  |cons b r=>
   have e:(false||(!bU.contains a|| !bU.contains b))=true:=by
    cases q1:bU.contains a
    ·rfl
    ·cases q2:bU.contains b
     ·rfl
     ·exact absurd ⟨d6.mp q1,d6.mp q2⟩ (u2 a b r rfl)
   simp only[←e];exact HU
theorem BD (h3:Sp 3=iO) (h8:Sp 8=spHere) (h10:Sp 10=spFail) (h11:Sp 11=spStep) (h14:Sp 14=spPoint) {ds:List V} {K:Kx} {KE:Ke} (h:spEsc ds σ K KE):Wlk Sp fB ds σ K KE:=by
 obtain⟨M4,d,x,n,fl,l,o,rfl,rfl,hd,hn,hx,h,he,k⟩:=h;refine bk 2 ?_;refine cQ (af h) fun a1 a2 a3=>?_;have r1:=cL a1 (by decide);refine aE (cC h11 a2) ?_;refine ak (aW h8 a3) (L':=sM d l .unb) rfl rfl ?_
 induction he with
 |sim hv=>exact Kh h11 a3 hv k
 |hex ha hb=>exact Ki h3 h11 a3 ha hb k
 | @uni us r i u1 u2 u3=>
  refine Am h14 ⟨M4,d,x,n+1,fl,_,rfl,rfl,hd,a2,hx,a3,.inr ⟨us,r,rfl,u1,u2,.inl ⟨i,u3,?_⟩⟩⟩;refine er (show n+1+3+us.length=n+1+(us.length+3) by lia) ?_;exact k
 |badU u1=>exact Am h14 ⟨M4,d,x,n+1,fl,_,rfl,rfl,hd,a2,hx,a3,.inl ⟨u1,by rw[r1];exact k⟩⟩
 |badV u1 u2 u3=>exact Am h14 ⟨M4,d,x,n+1,fl,_,rfl,rfl,hd,a2,hx,a3,.inr ⟨_,_,rfl,u1,u2,.inr ⟨u3,by rw[r1];exact k⟩⟩⟩
 |bad u1 u2=>exact Kj h10 a3 u1 u2 fun _ c=>by rw[r1];exact k c _ (mQ hd)
end
def vc (c:Nat):Prop:=c≠34∧c≠92∧32≤c∧c≠127
inductive Oc:List Nat→Option (List Nat)→Prop
 |nil:Oc [] (some [])
 |chr {c:Nat} {l:List Nat} {r:Option (List Nat)}:vc c→kT c→Oc l r→Oc (c::l) (r.map (hZ c++ ·))
 |ctl {c:Nat} {l:List Nat}:c≠34→c≠10∧c≠13→c<32∨c=127→Oc (c::l) none
 |esc {u l o:List Nat} {r:Option (List Nat)}:Es (u++l) (some (o,u.length))→u≠[]→(∀c∈u,c≠10∧c≠13)→o.length≤4→Oc l r→Oc (92::(u++l)) (r.map (o++ ·))
 |bad {l:List Nat}:l≠[]→Es l none→Oc (92::l) none
def pz (tl:List Nat):Prop:=(∃l,tl=34::l)∨tl=[]∨tl=[92]∨∃c l,tl=c::l∧(c=10∨c=13)
theorem jg (h:pz tl) (hc:tl.head?=some c):hxB c=false∧c≠125∧c≠123:=by
 rcases h with ⟨l,rfl⟩|rfl|rfl|⟨b,l,rfl,hb⟩
 ·cases hc;exact⟨rfl,by decide,by decide⟩
 ·cases hc
 ·cases hc;exact⟨rfl,by decide,by decide⟩
 ·obtain rfl:=c7 hc;rcases hb with rfl|rfl<;>exact⟨rfl,by decide,by decide⟩
theorem mn (h:fR r) (ht:pz tl):fR (r++tl):=by
 induction r with
 |nil=>exact fun c hc=>(jg ht hc).1
 |cons _ _=>exact h
theorem Es.app (h:Es l r) (hl:l≠[]) (ht:pz tl):Es (l++tl) r:=by
 cases h with
 |sim h=>exact .sim h
 |hex a b=>exact .hex a b
 | @uni us r i h1 h2 h3=>
  refine er (show 117::123::(us++r)++tl=117::123::(us++(r++tl)) by simp) ?_;refine .uni h1 (mn h2 ht) ⟨?_,h3.2⟩
  induction r with
  |nil=>cases h3.1
  |cons _ _=>exact h3.1
 | @badU l h1=>
  refine .badU ?_
  induction l with
  |nil=>exact fun z=>(jg ht z).2.2 rfl
  |cons _ _=>exact h1
 | @badV us r h1 h2 h3=>
  refine er (show 117::123::(us++r)++tl=117::123::(us++(r++tl)) by simp) ?_;refine .badV h1 (mn h2 ht) fun⟨i,h4,h5⟩=>h3 ⟨i,?_,h5⟩
  induction r with
  |nil=>exact absurd rfl (jg ht h4).2.1
  |cons _ _=>exact h4
 |bad h1 h2=>
  match l,hl with
  |[a],_=>
   refine .bad h1 fun b c r e ⟨z1,z2⟩=>?_;cases tl with
   |nil=>cases e
   |cons t tl=>
    cases e;have:=(jg ht rfl).1;unfold hxB at this;rw[d6.mpr z2] at this;cases this
  |a::b::l,_=>
   refine .bad h1 fun a' b' r e=>?_;have q7:=j2 e;simp only[←q7.1,←(j2 q7.2).1];exact h2 _ _ _ rfl
theorem gw {σ:Sto} {a b:Nat} {o o':AObj} (h:a≠b):(σ.put a o).put b o'=(σ.put b o').put a o:=by
 funext c;unfold Sto.put;by_cases h1:c=a
 ·subst h1;rw[i7 rfl,i3 h,i7 rfl]
 ·exact er (i3 h1) (er (i3 h1) rfl)
theorem qO {σ:Sto} {d a:Nat} {x:List Nat} {n fl:Nat} {o:AObj} (h:a≠d):(lx σ d x n fl).put a o=lx (σ.put a o) d x n fl:=gw h.symm
theorem gc (h:a≠d):lx σ d x n fl a=σ a:=aA _ _ h
theorem nG (ha:σ a=none) (h:Ext (σ.put a o) M1):Ext σ M1:=fun b hb=>by
 have hb':b≠a:=fun z=>hb (z▸ha);have:=h b (by rw[aA σ o hb'];exact hb);simp only[aA σ o hb'] at this;exact this
theorem gq (c:Nat):(hZ c).length≤4:=by
 unfold hZ
 split
 ·exact b9 (show 1≤4 by decide) (f3 _)
 ·split
  ·exact b9 (show 2≤4 by decide) (f3 _)
  ·split
   ·exact b9 (show 3≤4 by decide) (f3 _)
   ·exact f3 4
inductive spString (ds:List V) (σ:Sto) (K:Kx) (KE:Ke):Prop
 |mk (M4:_) (d:_) (x:_) (n:_) (fl:_) (inner:_) (tl:_) (r:_) (h1:ds=[.obj 0 d]) (h2:σ=lx M4 d x n fl) (h3:M4 d=none) (h4:n≤x.length) (h5:x.length≤aH) (h6:x.drop n=34::(inner++tl)) (h7:Oc inner r) (h8:pz tl) (h9:(∀o l,r=some o→tl=34::l→K (.bytes o) (lx M4 d x (n+inner.length+2) fl))) (h10:((r=none∨¬∃l,tl=34::l)→∀c M1,Ext M4 M1→KE (aY x n) c M1)):spString ds σ K KE
section
variable {KE:(Nat→V)→Ke} {d n fl:Nat} {x:List Nat}
theorem HS (h:σ a=some (.barr xs)) (hl:xs.length+ys.length≤ah) (k:K .none (σ.put a (.barr (xs++ys)))):gL (.bref a) (.bytes ys) σ K:=
 bub (P:=fun b=>b.length+ys.length≤ah∧K .none (σ.put a (.barr (b++ys)))) h ⟨hl,k⟩
theorem Dv (ho:Ev Sp gvL m σ o (.bref a) σ) (ha:σ a=some (.barr xs)) (he:Ev Sp gvL m σ e (.bytes ys) J) (Nn:J a=some (.barr xs)) (hl:xs.length+ys.length≤ah):Ev Sp gvL m σ (.extend o e) .none (J.put a (.barr (xs++ys))):=by
 refine fun K _ k=>ho _ _ ⟨bub (P:=fun _=>True) ha trivial,he (fun M5 M2=>gL (.bref a) M5 M2 K) _ ?_⟩;exact HS Nn hl k
noncomputable def stF (d:Nat) (row col:Int) (a:Nat) (sg:V):List V:=[.obj 0 d,.int row,.int col,.bref a,sg]
noncomputable def stS (σ:Sto) (a:Nat) (acc:List Nat) (d:Nat) (x:List Nat) (n fl:Nat):Sto:=lx (σ.put a (.barr acc)) d x n fl
theorem ri (ha:σ a=none) (hd:σ d=none):Ext σ (stS σ a acc d x n fl):=fun b hb=>by
 unfold stS;exact er (gc (fun z=>hb (z▸hd):b≠d)) (er (aA _ _ (fun z=>hb (z▸ha):b≠a)) rfl)
theorem qG (had:a≠d):stS σ a acc d x n fl a=some (.barr acc):=(gc had).trans (ai ..)
theorem xb (had:a≠d):(stS σ a acc d x n fl).put a (.barr acc')=stS σ a acc' d x n fl:=by
 unfold stS;rw[qO had,aM]
end
section
variable {KE:(Nat→V)→Ke} {a d n fl c:Nat} {x acc l tl:List Nat} {row col:Int} {sg:V}
theorem zM (h8:Sp 8=spHere) (h:x.drop n=c::l) (hc:c≠34):Et Sp gvL (fr (stF d row col a sg)) (stS σ a acc d x n fl) bE.whC true:=by
 have e:(!decide ([c]=[34]))=true:=by rw[fg,c9 hc];rfl
 simp only[←e];exact et_cmp (aW h8 h) kz rfl
theorem zY (h8:Sp 8=spHere) (h:x.drop n=c::l) (hn:c≠10∧c≠13→vcS Sp gvL bE.whB.aft2 (fr (stF d row col a (.str [c]))) (stS σ a acc d x n fl) Kn Kr Kb Kc KE) (hy:c=10∨c=13→KE (fr (stF d row col a (.str [c]))) row col (stS σ a acc d x n fl)):
  vcS Sp gvL bE.whB (fr (stF d row col a sg)) (stS σ a acc d x n fl) Kn Kr Kb Kc KE:=by
 refine ak (d:=.str [c]) (aW h8 h) (L':=stF d row col a (.str [c])) rfl rfl ?_;have e:(decide (c=10)||decide (c=13))=(false||(decide ([10]=[c])||(decide ([13]=[c])||false))):=by simp[eq_comm]
 refine aV (t:=decide (c=10)||decide (c=13)) (e▸et_or kz fun _=>et_cmp kz (aK kz rfl) rfl) (fun t=>dJ kz kz kz (hy ?_)) fun t=>hn ?_
 ·rw[z7,o5,o5] at t;exact t
 ·rw[m4,t5,t5] at t;exact t
theorem Hp:Et Sp gvL (fr (stF d row col a (.str [c]))) σ (.or (.cmp .lt (.var 4) (.lit (.str [32]))) (.cmp .eq (.var 4) (.lit (.str [127])))) (decide (c<32)||decide (c=127)):=
 et_or kz fun _=>et_cmp kz kz (congrArg some fg)
theorem Jb (h8:Sp 8=spHere) (h10:Sp 10=spFail) (h:x.drop n=c::l) (nl:c≠10∧c≠13) (hc:c<32∨c=127) (k:∀m c,KE m (aY x n) c (stS σ a acc d x n fl)):vcS Sp gvL bE.whB (fr (stF d row col a sg)) (stS σ a acc d x n fl) Kn Kr Kb Kc KE:=by
 refine zY h8 h (fun _=>aV Hp (fun _=>jC h10 (k _ _)) fun t=>?_) fun z=>(z.elim nl.1 nl.2).elim;rw[m4,t5,t5] at t;exact(hc.elim t.1 t.2).elim
theorem Ho (h8:Sp 8=spHere) (h:x.drop n=c::l) (nl:c≠10∧c≠13) (h1:¬c<32) (h2:c≠127) (hg:¬(55296≤c∧c<57344)) (k:vcS Sp gvL bE.whB.aft2.aft2 (fr (stF d row col a (.str [c]))) (stS σ a acc d x n fl) Kn Kr Kb Kc KE):vcS Sp gvL bE.whB (fr (stF d row col a sg)) (stS σ a acc d x n fl) Kn Kr Kb Kc KE:=by
 refine zY h8 h (fun _=>aV Hp (fun t=>?_) fun _=>?_) fun z=>(z.elim nl.1 nl.2).elim
 ·rw[c9 h1,c9 h2] at t;exact noT t
 ·have H:Et Sp gvL (fr (stF d row col a (.str [c]))) (stS σ a acc d x n fl) (.cmp2 .le .lt (.lit (.int 55296)) (.blt 1 (.var 4)) (.lit (.int 57344))) (decide ((55296:Int)≤c)&&decide ((c:Int)<57344)):=et_cmp2 kz kz kz rfl rfl;have e:(decide ((55296:Int)≤c)&&decide ((c:Int)<57344))=false:=by
   exact A4.mpr fun z=>hg ⟨leI (n:=55296) (d8.mp z).1,ltI (n:=57344) (d8.mp z).2⟩
  simp only[e] at H
  with_reducible refine aV H nofun fun _=>?_
  exact k
theorem Ee (h:32≤c) (hk:k<32):c≠k:=K0 (l3 hk h)
theorem Jc (h1:Sp 1=gG) (h8:Sp 8=spHere) (h11:Sp 11=spStep) (had:a≠d) (h:x.drop n=c::l) (hc:vc c) (hg:kT c) (hl:acc.length+4≤ah) (k:Kn (fr (stF d row col a (.str [c]))) (stS σ a (acc++hZ c) d x (n+1) fl)):vcS Sp gvL bE.whB (fr (stF d row col a sg)) (stS σ a acc d x n fl) Kn Kr Kb Kc KE:=by
 refine av fun gP gO=>?_;refine Ir hc fun c1 c2 c3 c4=>?_;refine gO ?_;refine Ho h8 h ⟨Ee c3 (by decide),Ee c3 (by decide)⟩ (t8.mpr c3) c4 hg.2 ?_;refine aD (t:=decide (c=92)) (et_cmp kz kz (congrArg some fg)) (fun t=>absurd (c8 t) c2) fun _=>?_;refine aE (Dv kz (qG had) (bt (ag (d:=.str [c]) kz au) fun K KE k=>h1▸⟨c,rfl,hg,k⟩) (qG had) (b9 (i6 (gq c) _) hl)) ?_;refine er (xb had) ?_;exact aE (cC h11 (af h).2.1) k
theorem Hq (h8:Sp 8=spHere) (h15:Sp 15=spEsc) (had:a≠d) (hd:σ d=none) (hn:n≤x.length) (hx:x.length≤aH) (h:x.drop n=92::l) (he:Es l o) (k:Io o (σ.put a (.barr acc)) d x n fl (fun M5 M2=>gL (.bref a) M5 M2 fun _ M1=>Kn (fr (stF d row col a (.str [92]))) M1) (KE (fr (stF d row col a (.str [92]))))):
  vcS Sp gvL bE.whB (fr (stF d row col a sg)) (stS σ a acc d x n fl) Kn Kr Kb Kc KE:=by
 refine Ho h8 h (by decide) (by decide) (by decide) (by decide) (aD (t:=true) kz (fun _=>?_) nofun);exact⟨bub (P:=fun _=>True) (qG had) trivial,vc_mcall kz rfl dX au (h15▸⟨_,d,x,n,fl,l,o,rfl,rfl,(aA _ _ had.symm).trans hd,hn,hx,h,he,k⟩)⟩
def StW (Sp:Nat→aP) (σ:Sto) (a d:Nat) (x:List Nat) (fl:Nat) (row col:Int) (Kn:(Nat→V)→Sto→Prop) (Kr:Kx) (KE:(Nat→V)→Ke) (tl inner:List Nat) (r:Option (List Nat)):Prop:=
 ∀(n:Nat) (acc:List Nat) (sg:V),n≤x.length→x.drop n=inner++tl→aY x n=row→acc.length+4*inner.length≤ah→
  (∀o l sg,r=some o→tl=34::l→Kn (fr (stF d row col a sg)) (stS σ a (acc++o) d x (n+inner.length) fl))→
  ((r=none∨¬∃l,tl=34::l)→∀m c M1,Ext σ M1→KE m row c M1)→
  ∃f,Wh Sp bE.whC bE.whB Kr KE Kn f (fr (stF d row col a sg)) (stS σ a acc d x n fl)
theorem AB (h8:Sp 8=spHere) (h15:Sp 15=spEsc) (had:a≠d) (ha:σ a=none) (hd:σ d=none) (hx:x.length≤aH) (hn:n≤x.length) (h:x.drop n=92::l) (he:Es l none) (hr:aY x n=row) (k2:∀m c M1,Ext σ M1→KE m row c M1):∃f,Wh Sp bE.whC bE.whB Kr KE Kn f (fr (stF d row col a sg)) (stS σ a acc d x n fl):=
 ⟨1,aL (zM h8 h (by decide)) (Hq h8 h15 had hd hn hx h he fun c M1 e=>by rw[hr];exact k2 _ c M1 (nG ha e))⟩
theorem Ja (h8:Sp 8=spHere) (h15:Sp 15=spEsc) (had:a≠d) (ha:σ a=none) (hd:σ d=none) (hx:x.length≤aH) (ht:pz tl):StW Sp σ a d x fl row col Kn Kr KE tl [] (some []):=by
 intro n acc sg hn h hr hl k1 k2;have h:x.drop n=tl:=h;rcases ht with ⟨l,e⟩|e|e|⟨c,l,e,hc⟩
 ·rw[e] at h;refine⟨1,fm (et_cmp (t:=false) (aW h8 h) kz rfl) ?_⟩;have:=k1 [] l sg rfl e;rw[d7] at this;exact this
 ·simp only[e] at h;refine⟨1,aL (et_cmp (t:=true) (aW h8 h) kz rfl) ?_⟩;refine ak (d:=.str []) (aW h8 h) (L':=stF d row col a (.str [])) rfl rfl ?_;exact aV (t:=true) (et_or (t:=true) (u:=false) kz nofun) (fun _=>dJ kz kz kz (k2 (.inr fun⟨_,z⟩=>absurd (e.symm.trans z) nofun) _ _ _ (ri ha hd))) nofun
 ·rw[e] at h;exact AB h8 h15 had ha hd hx hn h (.bad nofun nofun) hr (k2 (.inr fun⟨_,z⟩=>absurd (j2 (e.symm.trans z)).1 (by decide)))
 ·simp only[e] at h;have n34:c≠34:=fun z=>by rw[z] at hc;exact absurd hc (by decide)
  exact⟨1,aL (zM h8 h n34) (zY h8 h (fun z=>(hc.elim z.1 z.2).elim) fun _=>k2 (.inr fun⟨_,z⟩=>n34 (j2 (e.symm.trans z)).1) _ _ _ (ri ha hd))⟩
theorem BV (h1:Sp 1=gG) (h8:Sp 8=spHere) (h10:Sp 10=spFail) (h11:Sp 11=spStep) (h15:Sp 15=spEsc) (had:a≠d) (ha:σ a=none) (hd:σ d=none) (hx:x.length≤aH) (ht:pz tl) (ho:Oc inner r):StW Sp σ a d x fl row col Kn Kr KE tl inner r:=by
 induction ho with
 |nil=>exact Ja h8 h15 had ha hd hx ht
 | @chr c l r hc hg ho ih=>
  intro n acc sg hn h hr hl k1 k2;have q7:=af h;simp only[c6] at hl;have hu:=gq c;obtain⟨f,hf⟩:=ih (n+1) (acc++hZ c) (.str [c]) q7.2.1 q7.2.2 (by rw[cL q7.1 ⟨Ee hc.2.2.1 (by decide),Ee hc.2.2.1 (by decide)⟩,hr]) (b9 (by rw[b0,g5];exact i6 (b9 (y3 hu _) (j8 (l5 _ _))) _) hl) (fun o l' sg e1 e2=>by
   have:=k1 (hZ c++o) l' sg (by rw[e1];rfl) e2;rw[c6,l5 l.length,←g5,←e9] at this;exact this) (fun z=>k2 (z.imp (fun e=>by rw[e];rfl) id))
  exact⟨f+1,aL (zM h8 h hc.1) (Jc h1 h8 h11 had h hc hg (b9 (i6 (l4 4 (w7 _)) _) hl) hf)⟩
 |ctl c1 nl c2=>
  intro n acc sg hn h hr hl k1 k2;exact⟨1,aL (zM h8 h c1) (Jb h8 h10 h nl c2 fun m c=>hr▸k2 (.inl rfl) m c _ (ri ha hd))⟩
 | @esc u l o r he hu0 hu hol ho ih=>
  intro n acc sg hn h hr hl k1 k2;have q7:=af h;have h4:x.drop (n+1)=u++(l++tl):=by rw[←e9];exact q7.2.2
  have hlen:=bM h4 q7.2.1;rw[b0] at hlen;rw[c6,b0] at hl;obtain⟨f,hf⟩:=ih (n+1+u.length) (acc++o) (.str [92]) (b9 (f6 _ _) (j8 ((g5 ..).trans hlen))) (aT h4) (by rw[qc u _ _ h4 hu,cL q7.1 (by decide),hr]) (b9 (by rw[b0,g5];exact i6 (b9 (y3 hol _) (by rw[l5 4];exact y3 (l4 4 (m7 ..)) 4)) _) hl) (fun o' l' sg e1 e2=>by
   have:=k1 (o++o') l' sg (by rw[e1];rfl) e2;rw[c6,b0,show n+(u.length+l.length+1)=n+1+u.length+l.length by rw[x7 n 1,x7 (n+u.length) 1,←g5,←g5],←e9] at this;exact this) (fun z=>k2 (z.imp (fun e=>by rw[e];rfl) id))
  refine⟨f+1,aL (zM h8 h (by decide)) (Hq h8 h15 had hd hn hx h (he.app (fun z=>hu0 (List.append_eq_nil_iff.mp z).1) ht) ?_)⟩;unfold Io;refine HS (xs:=acc) (ys:=o) (qG had) (b9 (i6 (b9 hol (m7 4 (4*(u.length+l.length)))) _) hl) ?_;refine er (show(lx (σ.put a (.barr acc)) d x (n+1+u.length) fl).put a _=_ from xb had) ?_;exact hf
 |bad hl0 he=>
  intro n acc sg hn h hr hl k1 k2;exact AB h8 h15 had ha hd hx hn h (he.app hl0 ht) hr (k2 (.inl rfl))
end
section
variable {KE:(Nat→V)→Ke} {d n fl:Nat} {x:List Nat}
theorem Fx {a b:X} {r:S} {da db:V} {L':Nat→List V} (ha:Ev Sp gvL (fr L) σ a da σ) (hb:Ev Sp gvL (fr L) σ b db σ) (hL:∀p,gH [1,2,3] [da,db,.bref p] L=some (L' p)) (k:∀p,σ p=none→vcS Sp gvL r (fr (L' p)) (σ.put p (.barr [])) Kn Kr Kb Kc KE):
  vcS Sp gvL (.seq (.assignT [1,2,3] (.tup (.cons a (.cons b (.cons .barr0 .nil))))) r) (fr L) σ Kn Kr Kb Kc KE:=by
 show vcX Sp gvL a (fr L) σ _ _;refine ha _ _ ?_;show vcX Sp gvL b (fr L) σ _ _;refine hb _ _ ?_;intro p hp;refine⟨show 3≤100 by decide,?_⟩;show cS (bi [1,2,3] [da,db,.bref p] (fr L)) fun m'=>vcS Sp gvL r m' (σ.put p (.barr [])) Kn Kr Kb Kc KE;refine dG (hL p) ?_;exact k p hp
theorem By (h1:Sp 1=gG) (h8:Sp 8=spHere) (h10:Sp 10=spFail) (h11:Sp 11=spStep) (h15:Sp 15=spEsc) {ds:List V} {K:Kx} {KE:Ke} (h:spString ds σ K KE):Wlk Sp bE ds σ K KE:=by
 obtain⟨M4,d,x,n,fl,inner,tl,r,rfl,rfl,hd,hn,hx,h,ho,ht,k1,k2⟩:=h;refine bk 4 ?_;refine cQ (af h) fun a1 a2 a3=>?_;have hlen:=bM a3 a2;rw[b0] at hlen;refine Fx (aU 2 rfl rfl) (aU 3 rfl rfl) (L':=fun p=>[.obj 0 d,.int (aY x n),.int (bI x n),.bref p,.unb]) (fun _=>rfl) fun a ha=>?_;have had:a≠d:=fun z=>by rw[z,dX] at ha;cases ha
 rw[gc had] at ha;refine er (qO had) ?_;have hd':(M4.put a (.barr [])) d=none:=by rw[aA _ _ had.symm];exact hd
 refine aE (cC h11 a2) (dI (BV h1 h8 h10 h11 h15 had ha hd hx ht ho (n+1) [] .unb a2 a3 (cL a1 (by decide)) ?_ (fun o l sg e1 e2=>?_) fun z m c M1=>k2 z c M1))
 ·exact b9 (j8 (C9 _)) (b9 (l4 4 (b9 (b9 (f6 _ tl.length) (m7 _ (n+1))) (b9 (j8 hlen) hx))) (by decide))
 ·have k:=k1 o l e1 e2;simp only[e2] at a3;have b:=af (aT a3);refine aE (cC h11 b.2.1) (bB (gf (M1:=lx M4 d x (n+1+inner.length+1) fl) (dE kz fun K k=>bub (P:=fun b=>K (.bytes b) _) (by rw[gc had,ai]) k) ?_ (.same _)) ?_)
  ·intro b ob hb;by_cases q:b=d
   ·subst q;rw[dX] at hb⊢;exact hb
   ·rw[gc q] at hb⊢;exact jU ha b ob hb
  ·refine er (show n+1+inner.length+1=n+inner.length+2 by rw[x7 n 1]) ?_;exact k
end
inductive Pc where
 |w (c:Nat)
 |s (inner:List Nat) (r:Option (List Nat))
noncomputable def Pc.txt:Pc→List Nat|.w c=>[c]|.s i _=>34::(i++[34])
noncomputable def ae (ps:List Pc):List Nat:=ps.flatMap Pc.txt
inductive Sc:List Nat→Prop
 |nil:Sc []
 |chr {c:Nat} {l:List Nat}:c≠34→c≠92→c≠10∧c≠13→Sc l→Sc (c::l)
 |esc {b:Nat} {l:List Nat}:Sc l→Sc (92::b::l)
def Pc.Ok:Pc→Prop|.w c=>c∈dId|.s i r=>Oc i r∧Sc i
def fQ (l:List Nat):Prop:=∀c,l.head?=some c→c≠34∧dId.contains c=false
noncomputable def bf:List Pc→Option Nat
 |[]=>none
 |.w c::ps=>(bf ps).map (1+ ·)
 |.s i none::ps=>some 0
 |.s i (some o)::ps=>(bf ps).map (i.length+2+ ·)
noncomputable def jD:List Pc→Option (List Nat)|[.s _ (some o)]=>some o|_=>none
noncomputable def fX:List Pc→Nat|[]=>0|.w _::ps=>fX ps|.s _ _::ps=>fX ps+1
noncomputable def Ab (t:List Nat):List V:=match t with|c::r=>lX c r|[]=>[]
noncomputable def jN (ps:List Pc):List V:=match jD ps with
 |some o=>[.str dw,.bytes o]
 |none=>match decide (fX ps=0) with|true=>Ab (ae ps)|false=>[.str bG,.str (ae ps)]
noncomputable def jP (sv:List V) (t:List Nat) (row col:Int):V:=.fobj 1 (upd (upd (upd (upd (upd (fun _=>.unb) 5 (sv.getD 0 .none)) 0 (.str t)) 6 (sv.getD 1 .none)) 2 (.int row)) 3 (.int col))
inductive spTokI (ds:List V) (σ:Sto) (K:Kx) (KE:Ke):Prop
 |mk (M4:Sto) (a:Nat) (s w:List Nat) (v:V) (row col:Int) (h1:ds=[.obj 1 a,.str s,.str w,v,.int row,.int col]) (h2:v.ok=true) (h3:σ=M4.put a (.dict fun _=>.unb)) (h4:K .none (M4.put a (.dict (Ic s w v row col)))):spTokI ds σ K KE
theorem tZ {σ:Sto} {a:Nat} {o:AObj} (h:σ a=none):(σ.put a o).del a=σ:=by
 funext b;unfold Sto.del Sto.put;by_cases e:b=a
 ·exact er (i7 e) (er e (er h rfl))
 ·exact er (i3 e) (er (i3 e) rfl)
section
variable {KE:(Nat→V)→Ke} {d n fl:Nat} {x:List Nat}
theorem IE {ds:List V} {K:Kx} {KE:Ke} (h:spTokI ds σ K KE):Wlk Sp se ds σ K KE:=by
 obtain⟨M4,a,s,w,v,row,col,rfl,hv,rfl,k⟩:=h;refine bw kz kz rfl (ai ..) ?_;refine bw kz kz rfl (ai ..) ?_;refine bw (eL rfl hv) kz hv (ai ..) ?_;refine bw kz kz rfl (ai ..) ?_;refine bw kz kz rfl (ai ..) ?_;rw[aM,aM,aM,aM,aM];exact k
theorem Bb (h5:Sp 5=spTokI) {xs:XL} {s w:List Nat} {v:V} {row col:Int} (hv:v.ok=true) (h:Evs Sp gvL m σ xs [.str s,.str w,v,.int row,.int col] σ):Ev Sp gvL m σ (.new 1 true xs) (fU s w v row col) σ:=by
 intro K KE k;refine h _ _ fun a ha=>?_;show Sp 5 _ _ _ _;refine er h5 ?_;refine⟨σ,a,s,w,v,row,col,rfl,hv,rfl,?_⟩;refine dub (P:=fun fs=>K (.fobj 1 fs) ((σ.put a (.dict (Ic s w v row col))).del a)) (ai ..) ?_;refine er (tZ ha) ?_;exact k
noncomputable def stR:List Nat→Nat→V→List Pc→List Nat×Nat×V
 |o,k,b,[]=>(o,k,b)
 |o,k,b,.w _::ps=>stR o k (.bool false) ps
 |_,k,b,.s _ (some o)::ps=>stR o (k+1) (.bool true) ps
 |o,k,b,.s _ none::ps=>(o,k,b)
theorem Hr (ps:List Pc):∀(o:List Nat) (k:Nat) (b:V),bf ps=none→(stR o k b ps).2.1=k+fX ps:=by
 induction ps with
 |nil=>exact fun _ _ _ _=>rfl
 |cons p ps ih=>
  intro o k b h
  induction p with
  |w c=>exact ih o k _ (l7.mp h)
  |s i r=>induction r with
   |none=>exact noS h.symm
   |some o'=>exact(ih o' (k+1) _ (l7.mp h)).trans (t4 k _)
theorem Hs (ps:List Pc):∀(o:List Nat) (k:Nat) (b:V),bf ps=none→(∃t,b= .bool t)→∃t,(stR o k b ps).2.2= .bool t:=by
 induction ps with
 |nil=>exact fun _ _ _ _ h=>h
 |cons p ps ih=>
  intro o k b h _
  induction p with
  |w c=>exact ih o k _ (l7.mp h) ⟨_,rfl⟩
  |s i r=>induction r with
   |none=>exact noS h.symm
   |some o'=>exact ih o' (k+1) _ (l7.mp h) ⟨_,rfl⟩
theorem LX (ps:List Pc):∀(o:List Nat) (k:Nat),fX ps=0→(stR o k (.bool false) ps).2.2= .bool false:=by
 induction ps with
 |nil=>exact fun _ _ _=>rfl
 |cons p ps ih=>
  intro o k h
  induction p with
  |w c=>exact ih o k h
  |s i r=>exact nomatch h
theorem LW (h0:fX ps=0) (e:(stR o k (.bool true) ps).2.2= .bool true):ps=[]:=by
 induction ps with
 |nil=>rfl
 |cons p ps _=>
  induction p with
  |w c=>
   have q:=(LX ps o k h0).symm.trans e;injection q with q
   exact noT q
  |s i r=>exact nomatch h0
theorem nK (h8:Sp 8=spHere) (h:x.drop n=c::l):Et Sp gvL (fr (.obj 0 d::L)) (lx σ d x n fl) dH.whC (decide (c=34)||dId.contains c):=
 et_and (t:=true) (u:=decide (c=34)||dId.contains c) (et_cmp (aW h8 h) kz rfl) fun _=>et_or (et_cmp (aW h8 h) kz (congrArg some fg)) fun _=>et_cmp (aW h8 h) kz rfl
theorem GD (h8:Sp 8=spHere) (hl:fQ l) (h:x.drop n=l):Et Sp gvL (fr (.obj 0 d::L)) (lx σ d x n fl) dH.whC false:=by
 induction l with
 |nil=>exact et_and (t:=false) (u:=false) (et_cmp (aW h8 h) kz rfl) nofun
 |cons c l=>
  refine av fun gP gO=>?_;have:=nK (Sp:=Sp) (σ:=σ) (d:=d) (fl:=fl) (L:=L) h8 h;refine am (hl c rfl) fun a b=>?_;simp only[c9 a,b] at this;refine gO ?_;exact this
end
theorem Hm:ae (.s i r::ps)++tl=34::(i++34::(ae ps++tl)):=by
 show(34::(i++[34])++ae ps)++tl=_;rw[u6,u6,e9,e9];rfl
theorem jz:(ae (.s i r::ps)).length=i.length+2+(ae ps).length:=by
 show(34::(i++[34])++ae ps).length=_;rw[b0,c6,b0];rfl
theorem uW:(ae (.w c::ps)).length=1+(ae ps).length:=l5 _ 1
theorem Bj {x:List Nat} {n:Nat} {i:List Nat} {r:Option (List Nat)} {ps:List Pc} {tl:List Nat} (h:x.drop n=ae (.s i r::ps)++tl):x.drop n=34::(i++34::(ae ps++tl))∧x.drop (n+i.length+2)=ae ps++tl:=by
 simp only[Hm] at h;refine⟨h,?_⟩;refine er (show n+i.length+2=n+1+i.length+1 by rw[x7 n 1]) ?_;exact((af (aT (af h).2.2)).2.2)
noncomputable def rnF (d:Nat) (b r c:V) (o:List Nat) (k:Nat) (is:V):List V:=[.obj 0 d,b,r,c,.bytes o,.int k,is,.unb,.unb,.unb]
theorem xT {q:Pc} {ps:List Pc} {m e:Nat} {op:Prop} (hq:bf (q::ps)=(bf ps).map (m+ ·)) (hl:(ae (q::ps)).length=m+(ae ps).length) (he:bf ps=some e∨bf ps=none∧op∧e=(ae ps).length):bf (q::ps)=some (m+e)∨bf (q::ps)=none∧op∧m+e=(ae (q::ps)).length:=by
 refine er hq (er hl ?_);rcases he with e1|⟨e1,e2,e3⟩
 ·rw[e1];exact .inl rfl
 ·rw[e1,e3];exact .inr ⟨rfl,e2,rfl⟩
section
variable {KE:(Nat→V)→Ke} {d n fl k:Nat} {x o:List Nat} {b r c is:V}
theorem rn (h8:Sp 8=spHere) (h16:Sp 16=spString) (hd:σ d=none) (hx:x.length≤aH) (hn:n≤x.length) (h:x.drop n=34::(inner++t)) (ho:Oc inner r') (ht:pz t)
  (k1:∀o l,r'=some o→t=34::l→Kn (fr (rnF d b r c o (k+1) (.bool true))) (lx σ d x (n+inner.length+2) fl)) (k2:(r'=none∨¬∃l,t=34::l)→∀m c M1,Ext σ M1→KE m (aY x n) c M1):
  vcS Sp gvL dH.whB (fr (rnF d b r c o k is)) (lx σ d x n fl) Kn Kr Kb Kc KE:=by
 refine aD (t:=true) (et_cmp (aW h8 h) kz rfl) (fun _=>?_) nofun;refine vc_mcall kz rfl dX au (h16▸⟨σ,d,x,n,fl,inner,t,r',rfl,rfl,hd,hn,hx,h,ho,ht,fun o' l e1 e2=>?_,fun z=>k2 z _⟩);refine⟨show 2≤100 by decide,?_⟩;dsimp only[zK];refine dG (is:=[4,5]) (ds:=[.bytes o',.int (k+1:Nat)]) (L:=rnF d b r c o k is) (L':=rnF d b r c o' (k+1) is) rfl ?_;exact ak kz rfl rfl (k1 o' l e1 e2)
theorem Fo (h8:Sp 8=spHere) (h11:Sp 11=spStep) (h:x.drop n=c'::l) (hc:c'∈dId) (k1:Kn (fr (rnF d b r c o k (.bool false))) (lx σ d x (n+1) fl)):vcS Sp gvL dH.whB (fr (rnF d b r c o k is)) (lx σ d x n fl) Kn Kr Kb Kc KE:=by
 refine aD (t:=decide (c'=34)) (et_cmp (aW h8 h) kz (congrArg some fg)) (fun t=>absurd (c8 t) (fun z=>by rw[z] at hc;exact absurd hc (by decide))) fun _=>?_;exact aE (cC h11 (af h).2.1) (ak kz rfl rfl k1)
theorem Ck (h8:Sp 8=spHere) (h11:Sp 11=spStep) (h16:Sp 16=spString) (hd:σ d=none) (hx:x.length≤aH) {tl:List Nat} {op:Option (List Nat×List Nat×Option (List Nat))}
  (ht:match op with|none=>fQ tl|some (inner,t,r)=>tl=34::(inner++t)∧Oc inner r∧pz t∧¬∃l,t=34::l):∀(ps:List Pc) (n:Nat) (o:List Nat) (k:Nat) (is:V),n≤x.length→x.drop n=ae ps++tl→(∀p∈ps,p.Ok)→
  (bf ps=none→op=none→Kn (fr [.obj 0 d,b,r,c,.bytes (stR o k is ps).1,.int (stR o k is ps).2.1,(stR o k is ps).2.2,.unb,.unb,.unb]) (lx σ d x (n+(ae ps).length) fl))→
  (∀e,(bf ps=some e∨bf ps=none∧op≠none∧e=(ae ps).length)→∀m c M1,Ext σ M1→KE m (aY x (n+e)) c M1)→
  ∃f,Wh Sp dH.whC dH.whB Kr KE Kn f (fr (rnF d b r c o k is)) (lx σ d x n fl):=by
 intro ps
 induction ps with
 |nil=>
  intro n o k is hn h _ k1 k2
  induction op with
  |none=>exact⟨1,fm (GD h8 ht h) (k1 rfl rfl)⟩
  |some q=>
   refine av fun gP gO=>?_;rw[ht.1] at h;refine gO ?_;exact⟨1,aL (nK h8 h) (rn h8 h16 hd hx hn h ht.2.1 ht.2.2.1 (fun o l _ z=>absurd ⟨l,z⟩ ht.2.2.2) fun _=>k2 0 (.inr ⟨rfl,nofun,rfl⟩))⟩
 |cons p ps ih=>
  intro n o k is hn h hp k1 k2;have hok:=hp p (.head _)
  induction p with
  |w c'=>
   refine av fun gP gO=>?_;refine cQ (af (show x.drop n=c'::(ae ps++tl) from h)) fun a1 a2 a3=>?_;rw[uW,←g5] at k1;obtain⟨f,hf⟩:=(fun n o k is hn h=>ih n o k is hn h fun q hq=>hp q (.tail _ hq)) (n+1) o k (.bool false) a2 a3 (fun e1 e2=>k1 (l7.mpr e1) e2) (fun e he=>by
    rw[g5];exact k2 (1+e) (xT rfl uW he))
   have T:=nK (Sp:=Sp) (σ:=σ) (d:=d) (fl:=fl) (L:=(rnF d b r c o k is).drop 1) h8 h;simp only[d6.mpr hok,K3] at T;refine gO ?_;exact⟨f+1,aL T (Fo h8 h11 h hok hf)⟩
  |s inner r'=>
   have q7:=Bj h
   induction r' with
   |none=>exact⟨1,aL (nK h8 q7.1) (rn h8 h16 hd hx hn q7.1 hok.1 (.inl ⟨_,rfl⟩) (fun o l z=>nomatch z) fun _=>k2 0 (.inl rfl))⟩
   |some o'=>
    have hlen:=bM q7.1 hn;rw[c6,b0,c6] at hlen;rw[jz,←g5] at k1;obtain⟨f,hf⟩:=(fun n o k is hn h=>ih n o k is hn h fun q hq=>hp q (.tail _ hq)) (n+inner.length+2) o' (k+1) (.bool true) (by rw[g5,←hlen];exact i6 (i9 (i6 (m7 1 _) _)) n) q7.2 (fun e1 e2=>k1 (l7.mpr e1) e2) (fun e he=>by
     rw[g5,g5,←g5 inner.length];exact k2 (inner.length+2+e) (xT rfl jz he))
    exact⟨f+1,aL (nK h8 q7.1) (rn h8 h16 hd hx hn q7.1 hok.1 (.inl ⟨_,rfl⟩) (fun o l e1 _=>by rw[←c7 e1];exact hf) fun z=>(z.elim nofun fun z=>z ⟨_,rfl⟩).elim)⟩
end
abbrev Op:=Option (List Nat×List Nat×Option (List Nat))
def ny (tl:List Nat) (op:Op):Prop:=match op with|none=>fQ tl|some (inner,t,r)=>tl=34::(inner++t)∧Oc inner r∧pz t∧¬∃l,t=34::l
inductive spRun (ds:List V) (σ:Sto) (K:Kx) (KE:Ke):Prop
 |mk (M4:Sto) (d:Nat) (x:List Nat) (n fl:Nat) (toks:List V) (ps:List Pc) (tl:List Nat) (op:Op) (h1:ds=[.obj 0 d]) (h2:σ=lx (M4.put fl (.list toks)) d x n fl) (h3:M4 d=none) (h4:M4 fl=none) (h5:fl≠d) (h6:n≤x.length) (h7:x.length≤aH) (h8:toks.length≤aH) (h9:x.drop n=ae ps++tl) (h10:(∀p∈ps,p.Ok)) (h11:ny tl op) (h12:(op=none→ps≠[])) (h13:(bf ps=none→op=none→K .none (lx (M4.put fl (.list (toks++[jP (jN ps) (ae ps) (aY x n) (bI x n)]))) d x (n+(ae ps).length) fl))) (h14:(∀e,(bf ps=some e∨bf ps=none∧op≠none∧e=(ae ps).length)→∀c M1,Ext M4 M1→KE (aY x (n+e)) c M1)):spRun ds σ K KE
theorem jA (h:ps≠[]):∃c r,ae ps=c::r:=by
 induction ps with
 |nil=>exact absurd rfl h
 |cons p ps=>cases p<;>exact⟨_,_,rfl⟩
theorem Cj (h:bf ps=none) (h0:fX ps≠0) (h1:jD ps=none) (hp:∀p∈ps,p.Ok) (o:List Nat) (u:V):¬((stR o 0 u ps).2.1=1∧(stR o 0 u ps).2.2= .bool true)∨∃c r,ae ps=c::r∧c≠34:=by
 rcases ps with _|⟨p,ps⟩
 ·exact absurd rfl h0
 induction p with
 |w c=>exact .inr ⟨c,_,rfl,fun z=>absurd (show c∈dId from hp _ (.head _)) (by rw[z];decide)⟩
 |s i r=>induction r with
  |none=>exact noS h.symm
  |some o'=>
   refine .inl fun e=>?_;have e1:1+fX ps=1:=(Hr ps o' 1 (.bool true) (l7.mp h)).symm.trans e.1;rw[LW (o:=o') (k:=1) (Nat.add_left_cancel (k:=0) e1) e.2] at h1;exact nomatch h1
section
variable {KE:(Nat→V)→Ke} {d n fl:Nat} {x:List Nat}
theorem GA (h:x.drop n=a++b) (hN:n+a.length=N):Ev Sp gvL (fr (.obj 0 d:: .int n::L)) (lx σ d x N fl) (.slice (.attr (.var 0) 0) (.var 1) (.attr (.var 0) 1)) (.str a) (lx σ d x N fl):=by
 have:=gd (Sp:=Sp) (gv:=gvL) (m:=fr (.obj 0 d:: .int n::L)) (σ:=lx σ d x N fl) (a:=.attr (.var 0) 0) (lo:=.var 1) (hi:=.attr (.var 0) 1) (x:=x) (n:=n) (k:=N) (aU 0 rfl rfl) kz (aU 1 rfl rfl);simp only[h,show N - n=a.length by rw[←hN,j7],z6] at this;exact this
theorem qk (h:jD ps=some o):∃i,ps=[.s i (some o)]:=by
 rcases ps with _|⟨p,ps⟩
 ·exact noS h
 induction p with
 |w c=>exact noS h
 |s i r=>
  rcases ps with _|⟨p,ps⟩
  ·induction r with
   |none=>exact noS h
   |some o'=>exact⟨i,congrArg (fun o=>[Pc.s i (some o)]) (c7 h)⟩
  ·induction r with
   |none=>exact noS h
   |some o'=>exact noS h
inductive RunTok (ps:List Pc):Prop
 |mk (o:List Nat) (k:Nat) (t:Bool) (c:Nat) (r:List Nat) (e:stR [] 0 .unb ps=(o,k,.bool t)) (w:ae ps=c::r) (h0:k=0→jN ps=lX c r) (h1:k≠0→(decide ((k:Int)=1)&&t&&decide (c=34))=true→jN ps=[.str dw,.bytes o])
  (h2:k≠0→(decide ((k:Int)=1)&&t&&decide (c=34))=false→jN ps=[.str bG,.str (c::r)])
theorem EY (hb:bf ps=none) (hne:ps≠[]):∃t,(stR [] 0 .unb ps).2.2= .bool t:=by
 induction ps with
 |nil=>exact absurd rfl hne
 |cons p ps=>
  induction p with
  |w c=>exact Hs ps _ _ _ (l7.mp hb) ⟨_,rfl⟩
  |s i r=>induction r with
   |none=>exact noS hb.symm
   |some o=>exact Hs ps _ _ _ (l7.mp hb) ⟨_,rfl⟩
theorem Fm (hb:bf ps=none) (hne:ps≠[]) (hp:∀p∈ps,p.Ok):RunTok ps:=by
 refine ar (EY hb hne) fun t ht=>?_;refine cu (jA hne) fun c r hcr=>?_;have hk:=Hr ps [] 0 .unb hb;simp only[C9] at hk;cases e:jD ps with
 |some o'=>
  refine ar (qk e) fun i e=>?_;simp only[e];exact .mk o' 1 true 34 _ rfl rfl nofun (fun _ _=>rfl) nofun
 |none=>
  refine .mk (stR [] 0 .unb ps).1 _ t c r (Prod.ext rfl (Prod.ext rfl ht)) hcr (fun h=>?_) (fun h z=>?_) fun h _=>?_
  ·unfold jN Ab;exact er e (er (f9 (hk.symm.trans h)) (er hcr rfl))
  ·exfalso;refine am (d8.mp z) fun z z3=>?_;refine am (d8.mp z) fun z1 z2=>?_;rcases (Cj hb (hp:=hp) (o:=[]) (u:=.unb)) (fun z=>h (hk.trans z)) e with q|⟨c',r',q1,q2⟩
   ·exact q ⟨Int.ofNat_inj.mp (c8 z1),ht.trans (congrArg V.bool z2)⟩
   ·exact q2 ((j2 (q1.symm.trans hcr)).1.trans (c8 z3))
  ·unfold jN;exact er e (er (c9 fun z=>h (hk.trans z)) (er hcr rfl))
noncomputable def mA (d n:Nat) (row col:Int) (o:List Nat) (k:Nat) (t:Bool) (w:List Nat) (s v:V):List V:=[.obj 0 d,.int n,.int row,.int col,.bytes o,.int k,.bool t,.str w,s,v]
end
section
variable {M4:Sto} {K:Kx} {KE:(Nat→V)→Ke} {d n fl N k c:Nat} {x o w r:List Nat} {toks:List V} {row col:Int} {t:Bool}
theorem Mc (h5:Sp 5=spTokI) (hfd:fl≠d) (htk:toks.length≤aH) (hv:v.ok=true) (k1:Kn (fr (mA d n row col o k t w (.str s) v)) (lx (M4.put fl (.list (toks++[jP [.str s,v] w row col]))) d x N fl)):
  vcS Sp gvL dH.aft.aft3 (fr (mA d n row col o k t w (.str s) v)) (lx (M4.put fl (.list toks)) d x N fl) Kn K Kb Kc KE:=by
 have g:lx (M4.put fl (.list toks)) d x N fl fl=some (.list toks):=by rw[gc hfd,ai]
 refine aE (bO (aU 4 rfl rfl) g (Bb h5 hv (ag kz (ag kz (ag (eL rfl hv) kz)))) g (j0 htk (by decide))) ?_;rw[qO hfd,aM];exact k1
theorem Fq (h5:Sp 5=spTokI) (h19:Sp 19=kv) (hfd:fl≠d) (htk:toks.length≤aH) (hw:w=c::r) (h0:k=0→L=lX c r) (h1:k≠0→(decide ((k:Int)=1)&&t&&decide (c=34))=true→L=[.str dw,.bytes o])
  (h2:k≠0→(decide ((k:Int)=1)&&t&&decide (c=34))=false→L=[.str bG,.str w]) (k1:∀m,Kn m (lx (M4.put fl (.list (toks++[jP L w row col]))) d x N fl)):
  vcS Sp gvL dH.aft.aft1 (fr (mA d n row col o k t w u v)) (lx (M4.put fl (.list toks)) d x N fl) Kn K Kb Kc KE:=by
 have Z {s:List Nat} {v:V} (hv:v.ok=true) (e:L=[.str s,v]):=Mc (Sp:=Sp) (M4:=M4) (Kn:=Kn) (Kb:=Kb) (Kc:=Kc) (K:=K) (KE:=KE) (d:=d) (n:=n) (N:=N) (k:=k) (x:=x) (o:=o) (w:=w) (toks:=toks) (row:=row) (col:=col) (t:=t) h5 hfd htk hv (e▸k1 _);have W {u v:V}:k=0→vcS Sp gvL dH.aft.aft2.iteA (fr (mA d n row col o k t w u v)) (lx (M4.put fl (.list toks)) d x N fl) (fun m σ=>vcS Sp gvL dH.aft.aft3 m σ Kn K Kb Kc KE) K Kb Kc KE:=fun q=>by
  obtain⟨s,v,e,ov⟩:∃s v,lX c r=[.str s,v]∧v.ok=true:=by
   unfold lX;cases ez (c::r)<;>exact⟨_,_,rfl,rfl⟩
  exact aX (ds:=[.str s,v]) (L':=mA d n row col o k t w (.str s) v) (bt (ag (d:=.str w) kz au) fun K KE k=>h19▸⟨c,r,congrArg (fun t=>[V.str t]) hw,by rw[e];exact k⟩) rfl (Z ov ((h0 q).trans e))
 have C {u v:V}:Et Sp gvL (fr (mA d n row col o k t w u v)) (lx (M4.put fl (.list toks)) d x N fl) (.cmp .ne (.sub (.var 7) (.lit (.int 0))) (.lit (.str [34]))) (!decide (c=34)):=et_cmp (eO (n:=0) kz kz (by rw[hw];rfl)) kz (by show some (!decide ([c]=[34]))=_;rw[fg]);have A {u v:V} {b:Bool} (q:(decide ((k:Int)=1)&&t)=b):Et Sp gvL (fr (mA d n row col o k t w u v)) (lx (M4.put fl (.list toks)) d x N fl) (.and (.cmp .eq (.var 5) (.lit (.int 1))) (.var 6)) b:=by
  rw[←q];exact et_and kz fun _=>kz
 have T0 {u v:V}:Et Sp gvL (fr (mA d n row col o k t w u v)) (lx (M4.put fl (.list toks)) d x N fl) (.cmp .eq (.var 5) (.lit (.int 0))) (decide (k=0)):=by
  simp only[show decide (k=0)=decide ((k:Int)=0) from decide_eq_decide.mpr ⟨fun z=>by rw[z];rfl,fun z=>by lia⟩];exact kz
 cases q:decide ((k:Int)=1)&&t with
 |true=>
  rw[q] at h1 h2;refine aX (ds:=[.str dw,.bytes o]) (L':=mA d n row col o k t w (.str dw) (.bytes o)) (bD (A q) (fun _=>aK kz rfl) nofun) rfl ?_;refine aD T0 (fun z=>W (c8 z)) fun z=>?_;refine aV (et_and (t:=true) (et_cmp kz kz rfl) fun _=>C) (fun y=>?_) fun y=>Z rfl (h1 (g8 z) ?_)
  ·exact aX (L':=mA d n row col o k t w (.str bG) (.str w)) (aK kz rfl) rfl (Z rfl (h2 (g8 z) (nt y)))
  ·exact nf y
 |false=>
  rw[q] at h2;refine aX (ds:=[.str bG,.str w]) (L':=mA d n row col o k t w (.str bG) (.str w)) (bD (A q) nofun fun _=>aK kz rfl) rfl ?_;refine aD T0 (fun z=>W (c8 z)) fun z=>?_;exact aV (et_and (t:=false) (u:=false) (et_cmp kz kz rfl) nofun) nofun fun _=>Z rfl (h2 (g8 z) rfl)
theorem LF (h5:Sp 5=spTokI) (h8:Sp 8=spHere) (h11:Sp 11=spStep) (h16:Sp 16=spString) (h19:Sp 19=kv) {ds:List V} {K:Kx} {KE:Ke} (h:spRun ds σ K KE):Wlk Sp dH ds σ K KE:=by
 obtain⟨M4,d,x,n,fl,toks,ps,tl,op,rfl,rfl,hd,hf,hfd,hn,hx,htk,h,hp,ht,hne,k1,k2⟩:=h;refine bk 9 ?_;have hd':(M4.put fl (.list toks)) d=none:=by rw[aA _ _ hfd.symm];exact hd
 refine aX (ds:=[.int n,.int (aY x n),.int (bI x n),.bytes [],.int (0:Nat)]) (L':=[.obj 0 d,.int n,.int (aY x n),.int (bI x n),.bytes [],.int (0:Nat),.unb,.unb,.unb,.unb]) (aK (ag (aU 1 rfl rfl) (ag (aU 2 rfl rfl) (ag (aU 3 rfl rfl) kz))) rfl) rfl ?_;refine dI (Ck h8 h11 h16 hd' hx (op:=op) ht ps n [] 0 .unb hn h hp (fun hb ho=>?_) fun e he m c M1 hE=>k2 e he c M1 (nG hf hE));replace k1:=k1 hb ho;obtain⟨o,k,t,c,r,e,w,h0,h1,h2⟩:=Fm hb (hne ho) hp;refine er e ?_;refine ak (L':=mA d n (aY x n) (bI x n) o k t (ae ps) .unb .unb) (GA h rfl) rfl rfl ?_;exact Fq h5 h19 hfd htk w h0 h1 (fun a b=>(h2 a b).trans (by rw[w])) fun _=>k1
end
set_option genCtorIdx true in
inductive Gp where
 |sp (c:Nat)|com (cs:List Nat)|br (c:Nat)|lo (c:Nat)|run (ps:List Pc)
noncomputable def Gp.txt:Gp→List Nat|.sp c=>[c]|.com cs=>cs|.br c=>[c]|.lo c=>[c]|.run ps=>ae ps
inductive Fi where
 |ok|block (cs:List Nat)|bad (c:Nat) (l:List Nat)|str (ps:List Pc) (tl inner t:List Nat) (r:Option (List Nat))
def rC (c:Nat):Prop:=dBl.contains c=false∧[40,41].contains c=false∧gp.contains c=false∧c≠34∧dId.contains c=false
inductive Tx:List Nat→List Gp→Fi→Prop
 |nil:Tx [] [] .ok
 |sp {c:Nat} {l:List Nat} {gs:List Gp} {f:Fi}:c∈dBl→Tx l gs f→Tx (c::l) (.sp c::gs) f
 |line {cs l:List Nat} {gs:List Gp} {f:Fi}:(∀c∈cs,c≠10∧c≠13)→jB l→Tx l gs f→Tx (59::59::(cs++l)) (.com (59::59::cs)::gs) f
 |block {cs l:List Nat} {gs:List Gp} {f:Fi}:Bk 1 cs 0→Tx l gs f→Tx (40::59::(cs++l)) (.com (40::59::cs)::gs) f
 |blockO {cs:List Nat} {e:Nat}:Bk 1 cs e→e≠0→Tx (40::59::cs) [] (.block cs)
 |br {c:Nat} {l:List Nat} {gs:List Gp} {f:Fi}:c=40∨c=41→¬(c=40∧l.head?=some 59)→Tx l gs f→Tx (c::l) (.br c::gs) f
 |lo {c:Nat} {l:List Nat} {gs:List Gp} {f:Fi}:c∈gp→¬(c=59∧l.head?=some 59)→Tx l gs f→Tx (c::l) (.lo c::gs) f
 |run {ps:List Pc} {l:List Nat} {gs:List Gp} {f:Fi}:ps≠[]→(∀p∈ps,p.Ok)→fQ l→Tx l gs f→Tx (ae ps++l) (.run ps::gs) f
 |runO {ps:List Pc} {tl inner t:List Nat} {r:Option (List Nat)}:(∀p∈ps,p.Ok)→ny tl (some (inner,t,r))→Sc inner→Tx (ae ps++tl) [] (.str ps tl inner t r)
 |bad {c:Nat} {l:List Nat}:rC c→Tx (c::l) [] (.bad c l)
noncomputable def cG:Nat→List Gp→Fi→Option Nat
 |n,[],.ok=>none
 |n,[],.str ps _ _ _ _=>some (n+(bf ps).getD (ae ps).length)
 |n,[],_=>some n
 |n,.run ps::gs,f=>match bf ps with|some e=>some (n+e)|none=>cG (n+(ae ps).length) gs f
 |n,g::gs,f=>cG (n+g.txt.length) gs f
noncomputable def gF (x:List Nat):Nat→List Gp→List V
 |n,[]=>[]
 |n,.br c::gs=>fU [c] [c] (.str [c]) (aY x n) (bI x n)::gF x (n+1) gs
 |n,.lo c::gs=>fU bG [c] (.str [c]) (aY x n) (bI x n)::gF x (n+1) gs
 |n,.run ps::gs=>jP (jN ps) (ae ps) (aY x n) (bI x n)::gF x (n+(ae ps).length) gs
 |n,.sp c::gs=>gF x (n+1) gs
 |n,.com cs::gs=>gF x (n+cs.length) gs
noncomputable def eK (c:Nat) (r:List Nat):Nat:=bif dBl.contains c then 0 else bif decide ((c::r).take 2=[59,59]) then 1 else bif decide ((c::r).take 2=[40,59]) then 2 else bif [40,41].contains c then 3 else bif gp.contains c then 4 else bif decide (c=34)||dId.contains c then 5 else 6
inductive spWholeL (ds:List V) (σ:Sto) (K:Kx) (KE:Ke):Prop
 |mk (M4:Sto) (d:Nat) (x:List Nat) (fl:Nat) (gs:List Gp) (f:Fi) (h1:ds=[.obj 0 d]) (h2:σ=lx (M4.put fl (.list [])) d x 0 fl) (h3:M4 d=none) (h4:M4 fl=none) (h5:fl≠d) (h6:x.length≤aH) (h7:Tx x gs f) (h8:(cG 0 gs f=none→K (.lref fl) (lx (M4.put fl (.list (gF x 0 gs))) d x x.length fl))) (h9:(∀e,cG 0 gs f=some e→∀c M1,(x[e]?=some 34∨c=bI x e)→Ext M4 M1→KE (aY x e) c M1)):spWholeL ds σ K KE
section
variable {KE:(Nat→V)→Ke} {d n fl:Nat} {x:List Nat}
theorem cK (h5:Sp 5=spTokI) (h8:Sp 8=spHere) (h9:Sp 9=spStarts) (h10:Sp 10=spFail) (h11:Sp 11=spStep) (hfd:fl≠d) (htk:toks.length≤aH) (h:x.drop n=c::r) (hk:eK c r=k)
  (H:match (generalizing:=false) k with
   |0=>Kn (fr [.obj 0 d,.str [c]]) (lx (σ.put fl (.list toks)) d x (n+1) fl)
   |1=>Sp 12 [.obj 0 d] (lx (σ.put fl (.list toks)) d x n fl) (fun _ M1=>Kn (fr [.obj 0 d,.str [c]]) M1) (KE (fr [.obj 0 d,.str [c]]))
   |2=>Sp 13 [.obj 0 d] (lx (σ.put fl (.list toks)) d x n fl) (fun _ M1=>Kn (fr [.obj 0 d,.str [c]]) M1) (KE (fr [.obj 0 d,.str [c]]))
   |3=>Kn (fr [.obj 0 d,.str [c]]) (lx (σ.put fl (.list (toks++[fU [c] [c] (.str [c]) (aY x n) (bI x n)]))) d x (n+1) fl)
   |4=>Kn (fr [.obj 0 d,.str [c]]) (lx (σ.put fl (.list (toks++[fU bG [c] (.str [c]) (aY x n) (bI x n)]))) d x (n+1) fl)
   |5=>Sp 17 [.obj 0 d] (lx (σ.put fl (.list toks)) d x n fl) (fun _ M1=>Kn (fr [.obj 0 d,.str [c]]) M1) (KE (fr [.obj 0 d,.str [c]]))
   |_=>KE (fr [.obj 0 d,.str [c]]) (aY x n) (bI x n) (lx (σ.put fl (.list toks)) d x n fl)):
  vcS Sp gvL cj.whB (fr [.obj 0 d,sg]) (lx (σ.put fl (.list toks)) d x n fl) Kn Kr Kb Kn KE:=by
 unfold eK at hk;refine ak (d:=.str [c]) (aW h8 h) (L':=[.obj 0 d,.str [c]]) rfl rfl ?_;have g:lx (σ.put fl (.list toks)) d x n fl fl=some (.list toks):=by rw[gc hfd,ai]
 have A (xs:XL) (s:List Nat) (v:V) (hv:v.ok=true) (hx:Evs Sp gvL (fr [.obj 0 d,.str [c]]) (lx (σ.put fl (.list toks)) d x n fl) xs [.str s,.str [c],v,.int (aY x n),.int (bI x n)] (lx (σ.put fl (.list toks)) d x n fl)) {Kn':(Nat→V)→Sto→Prop}
   (k:Kn' (fr [.obj 0 d,.str [c]]) (lx (σ.put fl (.list (toks++[fU s [c] v (aY x n) (bI x n)]))) d x (n+1) fl)):vcS Sp gvL (.seq (.expr (.append (.attr (.var 0) 4) (.new 1 true xs))) (.seq (.expr (.mcall 11 (.var 0) .nil)) .skip)) (fr [.obj 0 d,.str [c]]) (lx (σ.put fl (.list toks)) d x n fl) Kn' Kr Kb Kn KE:=by
  refine aE (bO (aU 4 rfl rfl) g (Bb h5 hv hx) g (j0 htk (by decide))) ?_;rw[qO hfd,aM];exact aE (cC h11 (af h).2.1) k
 refine aD (t:=dBl.contains c) (et_cmp kz kz rfl) (fun t=>?_) fun t=>?_
 ·rw[t] at hk;subst hk;exact aE (cC h11 (af h).2.1) H
 rw[t] at hk;refine aD (dm h9 h) (fun t=>?_) fun t=>?_
 ·rw[t] at hk;subst hk;exact vc_mcall (K:=fun _ M1=>Kn (fr [.obj 0 d,.str [c]]) M1) kz rfl dX au H
 rw[t] at hk;refine aD (dm h9 h) (fun t=>?_) fun t=>?_
 ·rw[t] at hk;subst hk;exact vc_mcall (K:=fun _ M1=>Kn (fr [.obj 0 d,.str [c]]) M1) kz rfl dX au H
 rw[t] at hk;refine aD (t:=[40,41].contains c) (et_cmp kz kz rfl) (fun t=>?_) fun t=>?_
 ·rw[t] at hk;subst hk;refine A _ [c] (.str [c]) rfl ?_ H;exact ag kz (ag kz (ag kz (ag (aU 2 rfl rfl) (ag (aU 3 rfl rfl) au))))
 rw[t] at hk;refine aD (t:=gp.contains c) (et_cmp kz kz rfl) (fun t=>?_) fun t=>?_
 ·rw[t] at hk;subst hk;refine A _ bG (.str [c]) rfl ?_ H;exact ag kz (ag kz (ag kz (ag (aU 2 rfl rfl) (ag (aU 3 rfl rfl) au))))
 rw[t] at hk;refine aD (t:=decide (c=34)||dId.contains c) (et_or (et_cmp kz kz (congrArg some fg)) fun _=>et_cmp kz kz rfl) (fun t=>?_) fun t=>?_
 ·rw[t] at hk;subst hk;exact vc_mcall (K:=fun _ M1=>Kn (fr [.obj 0 d,.str [c]]) M1) kz rfl dX au H
 ·rw[t] at hk;subst hk;exact jC h10 H
theorem Df:∀c∈dId,dBl.contains c=false∧c≠59∧c≠40∧[40,41].contains c=false∧gp.contains c=false:=by decide
theorem eT {c a b:Nat} {l:List Nat} (h:c≠a):decide ((c::l).take 2=[a,b])=false:=c9 fun z=>by cases l<;>cases z;exact h rfl
theorem nQ {c a b:Nat} {l:List Nat} (h:¬(c=a∧l.head?=some b)):decide ((c::l).take 2=[a,b])=false:=c9 fun z=>by
 cases l with
 |nil=>cases z
 |cons e l=>cases z;exact h ⟨rfl,rfl⟩
theorem CL:∀c∈gp,dBl.contains c=false∧c≠40∧[40,41].contains c=false:=by decide
theorem CU {c:Nat} {l:List Nat} (h:c=34∨c∈dId):eK c l=5:=by
 unfold eK;rcases h with rfl|h
 ·rw[eT (by decide),eT (by decide)];rfl
 ·have q7:=Df c h;rw[q7.1,eT q7.2.1,eT q7.2.2.1,q7.2.2.2.1,q7.2.2.2.2,d6.mpr h,K3];rfl
theorem CW {c:Nat} {l:List Nat} (h:rC c):eK c l=6:=by
 refine xY h fun h1 h2 h3 h4 h5=>?_;unfold eK;rw[h1,eT (fun z=>by rw[z] at h3;cases h3),eT (fun z=>by rw[z] at h2;cases h2),h2,h3,h5,c9 h4];rfl
theorem FZ {c:Nat} {l:List Nat} (h:c∈gp) (h':¬(c=59∧l.head?=some 59)):eK c l=4:=by
 have q7:=CL c h;unfold eK;rw[q7.1,nQ h',eT q7.2.1,q7.2.2,d6.mpr h];rfl
theorem Gb {c:Nat} {l:List Nat} (h:c=40∨c=41) (h':¬(c=40∧l.head?=some 59)):eK c l=3:=by
 unfold eK;refine er (nQ h') (er (eT (a:=59) (by lia)) ?_);rcases h with rfl|rfl<;>rfl
theorem FY (h:c∈dBl):eK c l=0:=by
 unfold eK;rw[d6.mpr h];rfl
theorem lN:∀(ps:List Pc) (e:Nat),bf ps=some e→(ae ps)[e]?=some 34
 |.w c::ps,e,h=>by
  refine aj (i8.mp (show(bf ps).map (1+ ·)=some e from h)) fun e' h' z2_=>?_;subst z2_;have:=lN ps e' h';show(c::ae ps)[1+e']?=_;rw[l5,List.getElem?_cons_succ];exact this
 |.s i none::ps,e,h=>by
  cases h;rfl
 |.s i (some o)::ps,e,h=>by
  refine aj (i8.mp (show(bf ps).map (i.length+2+ ·)=some e from h)) fun e' h' z2_=>?_;subst z2_;have:=lN ps e' h';show(34::(i++[34])++ae ps)[i.length+2+e']?=_;refine er (D9 (by simp[g5])) ?_;refine er (show i.length+2+e' - (34::(i++[34])).length=e' by rw[c6,b0,e8];lia) ?_;exact this
def WlW (Sp:Nat→aP) (σ:Sto) (d fl:Nat) (x:List Nat) (Kn:(Nat→V)→Sto→Prop) (Kr:Kx) (KE:(Nat→V)→Ke) (l:List Nat) (gs:List Gp) (f:Fi):Prop:=
 ∀(n:Nat) (toks:List V) (sg:V),n≤x.length→x.drop n=l→toks.length≤n→(cG n gs f=none→∀sg,Kn (fr [.obj 0 d,sg]) (lx (σ.put fl (.list (toks++gF x n gs))) d x x.length fl))→
  (∀e,cG n gs f=some e→∀m c M1,(x[e]?=some 34∨c=bI x e)→Ext σ M1→KE m (aY x e) c M1)→
  ∃f,Wh Sp cj.whC cj.whB Kr KE Kn f (fr [.obj 0 d,sg]) (lx (σ.put fl (.list toks)) d x n fl)
theorem sI (h:x.drop n=c::r):Et Sp gvL (fr [.obj 0 d,sg]) (lx (σ.put fl (.list toks)) d x n fl) cj.whC true:=by
 refine er (show decide ((n:Int)<x.length)=true from f9 (u7.mpr (af h).2.1)).symm ?_;exact wW
theorem Cn (hp:∀p∈ps,p.Ok) (ho:ny tl op) (hne:op=none→ps≠[]):∃c r,ae ps++tl=c::r∧(c=34∨c∈dId):=by
 cases ps with
 |nil=>
  cases op with
  |none=>exact absurd rfl (hne rfl)
  |some q=>exact⟨_,_,ho.1,.inl rfl⟩
 |cons p ps=>
  cases p with
  |w c=>exact⟨_,_,rfl,.inr (hp _ (.head _))⟩
  |s i r=>exact⟨_,_,rfl,.inl rfl⟩
theorem Au (h5:Sp 5=spTokI) (h8:Sp 8=spHere) (h9:Sp 9=spStarts) (h10:Sp 10=spFail) (h11:Sp 11=spStep) (h17:Sp 17=spRun) (hd:σ d=none) (hf:σ fl=none) (hfd:fl≠d) (hx:x.length≤aH) (hn:n≤x.length) (h:x.drop n=ae ps++tl) (hk:toks.length≤n) (hp:∀p∈ps,p.Ok) (ho:ny tl op) (hne:op=none→ps≠[])
  (k1:bf ps=none→op=none→∀c,∃f,Wh Sp cj.whC cj.whB Kr KE Kn f (fr [.obj 0 d,.str [c]]) (lx (σ.put fl (.list (toks++[jP (jN ps) (ae ps) (aY x n) (bI x n)]))) d x (n+(ae ps).length) fl))
  (k2:∀e,(bf ps=some e∨bf ps=none∧op≠none∧e=(ae ps).length)→∀m c M1,Ext σ M1→KE m (aY x (n+e)) c M1):∃f,Wh Sp cj.whC cj.whB Kr KE Kn f (fr [.obj 0 d,sg]) (lx (σ.put fl (.list toks)) d x n fl):=by
 refine dU (Cn hp ho hne) fun c r hr hc=>?_;obtain⟨f,hf'⟩:∃f,bf ps=none→op=none→Wh Sp cj.whC cj.whB Kr KE Kn f (fr [.obj 0 d,.str [c]]) (lx (σ.put fl (.list (toks++[jP (jN ps) (ae ps) (aY x n) (bI x n)]))) d x (n+(ae ps).length) fl):=by
  by_cases q:bf ps=none∧op=none
  ·refine ar (k1 q.1 q.2 c) fun f hf=>?_;exact⟨f,fun _ _=>hf⟩
  ·exact⟨0,fun a b=>absurd ⟨a,b⟩ q⟩
 refine⟨f+1,aL (sI (h.trans hr)) (cK h5 h8 h9 h10 h11 hfd (b9 hk (b9 hn hx)) (h.trans hr) (CU hc) ?_)⟩;exact h17▸⟨σ,d,x,n,fl,toks,ps,tl,op,rfl,rfl,hd,hf,hfd,hn,hx,b9 hk (b9 hn hx),h,hp,ho,hne,hf',fun e he=>k2 e he _⟩
theorem xJ:cG n (.run ps::gs) f=(match bf ps with|some e=>some (n+e)|none=>cG (n+(ae ps).length) gs f):=rfl
theorem tA (h:x.drop n=ae ps++tl) (he:bf ps=some e):x[n+e]?=some 34:=by
 have:=lN ps e he;refine er F5.symm (er h (er (List.getElem?_append_left (i5.mp this).1) ?_));exact this
theorem um (h5:Sp 5=spTokI) (h8:Sp 8=spHere) (h9:Sp 9=spStarts) (h10:Sp 10=spFail) (h11:Sp 11=spStep) (h12:Sp 12=spRow) (h13:Sp 13=spBlock) (h17:Sp 17=spRun) (hd:σ d=none) (hf:σ fl=none) (hfd:fl≠d) (hx:x.length≤aH) (ht:Tx l gs f):WlW Sp σ d fl x Kn Kr KE l gs f:=by
 induction ht with
 |nil=>
  intro n toks sg hn h hk k1 k2;have hl:=bM h hn;simp only[E9,Nat.add_zero] at hl;refine⟨1,fm ?_ ?_⟩
  ·simp only[←(c9 (by lia):decide ((n:Int)<x.length)=false)];exact wW
  ·have:=k1 rfl sg;rw[show gF x n []=[] from rfl,d7,←hl] at this;exact this
 | @sp c l gs f hc ht ih=>
  intro n toks sg hn h hk k1 k2;refine cQ (af h) fun a1 a2 a3=>?_;refine ar (ih (n+1) toks (.str [c]) a2 a3 (by lia) k1 k2) fun f hf'=>?_;exact⟨f+1,aL (sI h) (cK h5 h8 h9 h10 h11 hfd (by lia) h (FY hc) hf')⟩
 | @line cs l gs f hc hl ht ih=>
  intro n toks sg hn h hk k1 k2;have hlen:=bM h hn;obtain⟨f,hf'⟩:=ih (n+(59::59::cs).length) toks (.str [59]) (by simp at hlen⊢;lia) (aT (a:=59::59::cs) h) (by lia) k1 k2;refine⟨f+1,aL (sI h) (cK (k:=1) h5 h8 h9 h10 h11 hfd (by lia) h rfl ?_)⟩;exact h12▸⟨_,d,x,n,fl,59::59::cs,l,rfl,rfl,hn,h,fun c hc'=>by
   rcases d0.mp hc' with rfl|hc'
   ·decide
   ·rcases d0.mp hc' with rfl|hc'
    ·decide
    ·exact hc c hc',hl,hf'⟩
 | @block cs l gs f hb ht ih=>
  intro n toks sg hn h hk k1 k2;have hlen:=bM h hn;obtain⟨f,hf'⟩:=ih (n+(40::59::cs).length) toks (.str [40]) (by simp at hlen⊢;lia) (aT (a:=40::59::cs) h) (by lia) k1 k2;refine⟨f+1,aL (sI h) (cK (k:=2) h5 h8 h9 h10 h11 hfd (by lia) h rfl ?_)⟩;refine h13▸⟨_,d,x,n,fl,cs,l,0,rfl,rfl,((aA _ _ hfd.symm).trans hd),hn,h,hb,.inl ⟨rfl,?_⟩⟩;refine er (show n+2+cs.length=n+(40::59::cs).length by simp;lia) ?_;exact hf'
 | @blockO cs e hb he=>
  intro n toks sg hn h hk k1 k2;refine⟨1,aL (sI h) (cK (k:=2) h5 h8 h9 h10 h11 hfd (by lia) h rfl ?_)⟩;exact h13▸⟨_,d,x,n,fl,cs,[],e,rfl,rfl,((aA _ _ hfd.symm).trans hd),hn,by rw[d7];exact h,hb,.inr ⟨he,rfl,fun M1 hE=>k2 n rfl _ _ _ (.inr rfl) (nG hf hE)⟩⟩
 | @br c l gs f hc hc' ht ih=>
  intro n toks sg hn h hk k1 k2;refine cQ (af h) fun a1 a2 a3=>?_;obtain⟨f,hf'⟩:=ih (n+1) (toks++[fU [c] [c] (.str [c]) (aY x n) (bI x n)]) (.str [c]) a2 a3 (by rw[b0,e8];lia) (fun e sg=>by
   have:=k1 e sg;rw[e9];exact this) k2
  exact⟨f+1,aL (sI h) (cK h5 h8 h9 h10 h11 hfd (by lia) h (Gb hc hc') hf')⟩
 | @lo c l gs f hc hc' ht ih=>
  intro n toks sg hn h hk k1 k2;refine cQ (af h) fun a1 a2 a3=>?_;obtain⟨f,hf'⟩:=ih (n+1) (toks++[fU bG [c] (.str [c]) (aY x n) (bI x n)]) (.str [c]) a2 a3 (by rw[b0,e8];lia) (fun e sg=>by
   have:=k1 e sg;rw[e9];exact this) k2
  exact⟨f+1,aL (sI h) (cK h5 h8 h9 h10 h11 hfd (by lia) h (FZ hc hc') hf')⟩
 | @run ps l gs f hne hp hl ht ih=>
  intro n toks sg hn h hk k1 k2;have a3:=aT h;have hlen:=bM h hn;rw[b0] at hlen;refine cu (jA hne) fun c r hcr=>?_;have hpos:0<(ae ps).length:=by rw[hcr];exact w7 _
  refine Au h5 h8 h9 h10 h11 h17 hd hf hfd hx (op:=none) hn h hk hp hl (fun _=>hne) (fun hb _=>?_) fun e he m c M1 hE=>?_
  ·simp only[xJ,hb] at k1 k2;exact fun c=>ih (n+(ae ps).length) (toks++[jP (jN ps) (ae ps) (aY x n) (bI x n)]) (.str [c]) (by lia) a3 (by rw[b0,e8];lia) (fun e sg=>by
    have:=k1 e sg;rw[e9];exact this) k2
  ·exact k2 (n+e) (by rw[xJ,(he.resolve_right fun z=>z.2.1 rfl)]) m c M1 (.inl (tA h (he.resolve_right fun z=>z.2.1 rfl))) hE
 | @runO ps tl inner t r hp ho hsc=>
  intro n toks sg hn h hk k1 k2;refine Au h5 h8 h9 h10 h11 h17 hd hf hfd hx (op:=some (inner,t,r)) hn h hk hp ho nofun nofun fun e he m c M1 hE=>k2 (n+e) ?_ m c M1 ?_ hE
  ·show some _=_;rcases he with he|⟨he,_,he'⟩
   ·rw[he];rfl
   ·rw[he,he'];rfl
  ·left;rcases he with he|⟨he,_,he'⟩
   ·exact tA h he
   ·rw[←F5,h,he',D9 (f3 _),Nat.sub_self,ho.1];rfl
 | @bad c l hc=>
  intro n toks sg hn h hk k1 k2;refine⟨1,aL (sI h) (cK (k:=6) h5 h8 h9 h10 h11 hfd (by lia) h (CW hc) ?_)⟩;exact k2 n rfl _ _ _ (.inr rfl) fun b hb=>by
   exact er (gc (fun z=>hb (z▸hd):b≠d)) (er (aA _ _ (fun z=>hb (z▸hf):b≠fl)) rfl)
theorem Bw (h5:Sp 5=spTokI) (h8:Sp 8=spHere) (h9:Sp 9=spStarts) (h10:Sp 10=spFail) (h11:Sp 11=spStep) (h12:Sp 12=spRow) (h13:Sp 13=spBlock) (h17:Sp 17=spRun) {ds:List V} {K:Kx} {KE:Ke} (h:spWholeL ds σ K KE):Wlk Sp cj ds σ K KE:=by
 obtain⟨M4,d,x,fl,gs,f,rfl,rfl,hd,hf,hfd,hx,ht,k1,k2⟩:=h;refine bk 1 ?_;refine dI (um h5 h8 h9 h10 h11 h12 h13 h17 hd hf hfd hx ht 0 [] .unb (g6 _) rfl (f3 _) (fun e sg=>?_) fun e he _=>k2 e he);exact bB (aU 4 rfl rfl) (k1 e)
end
structure Tk where
 s:List Nat
 w:List Nat
 v:V
 row:Int
 col:Int
noncomputable def Tk.V (t:Tk):V:=fU t.s t.w t.v t.row t.col
noncomputable def tkW (t:List Nat):List Nat×V:=match t with
 |c::r=>(match ez (c::r) with|some i=>(cf,.int i)|none=>(pn c r,.str (c::r)))
 |[]=>(bG,.none)
noncomputable def tkR (ps:List Pc):List Nat×V:=match jD ps with
 |some o=>(dw,.bytes o)
 |none=>match decide (fX ps=0) with|true=>tkW (ae ps)|false=>(bG,.str (ae ps))
theorem IV (h:ps≠[]) (row col:Int):jP (jN ps) (ae ps) row col=fU (tkR ps).1 (ae ps) (tkR ps).2 row col:=by
 have e:jN ps=[.str (tkR ps).1,(tkR ps).2]:=by
  unfold jN tkR;cases jD ps with
  |some o=>rfl
  |none=>
   cases decide (fX ps=0) with
   |false=>rfl
   |true=>
    refine cu (jA h) fun c r e=>?_;dsimp only;refine er e ?_;unfold Ab tkW lX;dsimp only;cases ez (c::r)<;>rfl
 rw[e];rfl
noncomputable def eC (x:List Nat):Nat→List Gp→List Tk
 |n,[]=>[]
 |n,.br c::gs=>⟨[c],[c],.str [c],aY x n,bI x n⟩::eC x (n+1) gs
 |n,.lo c::gs=>⟨bG,[c],.str [c],aY x n,bI x n⟩::eC x (n+1) gs
 |n,.run ps::gs=>⟨(tkR ps).1,ae ps,(tkR ps).2,aY x n,bI x n⟩::eC x (n+(ae ps).length) gs
 |n,.sp c::gs=>eC x (n+1) gs
 |n,.com cs::gs=>eC x (n+cs.length) gs
def Eg (gs:List Gp):Prop:=∀ps,Gp.run ps∈gs→ps≠[]
theorem iS (h:∀ps,g= .run ps→ps≠[]) (h':Eg gs):Eg (g::gs):=fun ps hp=>(d0.mp hp).elim (fun e=>h ps e.symm) (h' ps)
theorem Tx.gsOk (h:Tx l gs f):Eg gs:=by
 induction h with
 |nil=>exact fun ps h=>nomatch h
 |sp _ _ ih=>exact iS nofun ih
 |line _ _ _ ih=>exact iS nofun ih
 |block _ _ ih=>exact iS nofun ih
 |blockO=>exact fun ps h=>nomatch h
 |br _ _ _ ih=>exact iS nofun ih
 |lo _ _ _ ih=>exact iS nofun ih
 |run hne _ _ _ ih=>exact iS (fun ps e=>by cases e;exact hne) ih
 |runO=>exact fun ps h=>nomatch h
 |bad=>exact fun ps h=>nomatch h
theorem EK:∀(gs:List Gp) (n:Nat),Eg gs→gF x n gs=(eC x n gs).map Tk.V:=by
 intro zz
 induction zz with
 |nil=>
  intro n _;exact rfl
 |cons zp gs ih=>
  induction zp with
  |br c=>
   intro n h;exact congrArg (_:: ·) (ih (n+1) fun ps hp=>h ps (.tail _ hp))
  |lo c=>
   intro n h;exact congrArg (_:: ·) (ih (n+1) fun ps hp=>h ps (.tail _ hp))
  |run ps=>
   intro n h;show jP (jN ps) (ae ps) _ _::_=_;rw[IV (h ps (.head _)),ih _ fun ps hp=>h ps (.tail _ hp)];rfl
  |sp c=>
   intro n h;exact ih (n+1) fun ps hp=>h ps (.tail _ hp)
  |com cs=>
   intro n h;exact ih (n+cs.length) fun ps hp=>h ps (.tail _ hp)
inductive spLexI (ds:List V) (σ:Sto) (K:Kx) (KE:Ke):Prop
 |mk (M4:Sto) (d:Nat) (x:List Nat) (h1:ds=[.obj 0 d,.str x]) (h2:σ=M4.put d (.dict fun _=>.unb)) (h3:M4 d=none) (h4:∀fl,M4 fl=none→fl≠d→K .none (lx (M4.put fl (.list [])) d x 0 fl)):spLexI ds σ K KE
inductive spTokens (ds:List V) (σ:Sto) (K:Kx) (KE:Ke):Prop
 |mk (x:List Nat) (gs:List Gp) (f:Fi) (h1:ds=[.str x]) (h2:x.length≤aH) (h3:Tx x gs f) (h4:(cG 0 gs f=none→K (.lst ((eC x 0 gs).map Tk.V)) σ)) (h5:(∀e,cG 0 gs f=some e→∀c M1,(x[e]?=some 34∨c=bI x e)→Ext σ M1→KE (aY x e) c M1)):spTokens ds σ K KE
theorem CO (x:List Nat) (fl:Nat):upd (upd (upd (upd (upd (fun _=>.unb) 0 (.str x)) 1 (.int 0)) 2 (.int 1)) 3 (.int 1)) 4 (.lref fl)=mC x 0 fl:=by
 refine er (show(fun _=>V.unb:Nat→V)=fr [.unb,.unb,.unb,.unb,.unb] from qT [] 5) (er (bh rfl rfl) (er (bh rfl rfl) (er (bh rfl rfl) (er (bh rfl rfl) (er (bh rfl rfl) ?_)))));rfl
section
variable {KE:(Nat→V)→Ke} {d n fl:Nat} {x:List Nat}
theorem IJ {ds:List V} {K:Kx} {KE:Ke} (h:spLexI ds σ K KE):Wlk Sp sf ds σ K KE:=by
 obtain⟨M4,d,x,rfl,rfl,hd,k⟩:=h;refine bw kz kz rfl (ai ..) ?_;refine bw kz kz rfl (ai ..) ?_;refine bw kz kz rfl (ai ..) ?_;refine bw kz kz rfl (ai ..) ?_;rw[aM,aM,aM,aM];refine⟨g6 _,fun fl hfl=>?_⟩;have hfd:fl≠d:=fun z=>by rw[z,ai] at hfl;cases hfl
 rw[aA _ _ hfd] at hfl;have g:((M4.put d (.dict (upd (upd (upd (upd (fun _=>.unb) 0 (.str x)) 1 (.int 0)) 2 (.int 1)) 3 (.int 1)))).put fl (.list [])) d=some (.dict (upd (upd (upd (upd (fun _=>.unb) 0 (.str x)) 1 (.int 0)) 2 (.int 1)) 3 (.int 1))):=by
  rw[aA _ _ hfd.symm,ai]
 refine dub (P:=fun fs=>vcS Sp gvL .skip _ (Sto.put _ d (.dict (upd fs 4 (.lref fl)))) _ _ _ _ _) g ?_;rw[gw hfd.symm,aM,CO];exact k fl hfl hfd
theorem Bx (h7:Sp 7=spLexI) (h18:Sp 18=spWholeL) {ds:List V} {K:Kx} {KE:Ke} (h:spTokens ds σ K KE):Wlk Sp Cc ds σ K KE:=by
 obtain⟨x,gs,f,rfl,hx,ht,k1,k2⟩:=h;intro d hd;show Sp 7 _ _ _ _;simp only[h7];refine⟨σ,d,x,rfl,rfl,hd,fun fl hfl hfd=>?_⟩;refine⟨rfl,⟨_,dX⟩,?_⟩;show Sp 18 _ _ _ _;simp only[h18];refine⟨σ,d,x,fl,gs,f,rfl,rfl,hd,hfl,hfd,hx,ht,fun e=>?_,k2⟩;refine⟨_,σ,fun a o ha=>?_,.lst (by rw[gc hfd,ai]) hfl (fw _),?_⟩
 ·rw[gc (fun z=>by rw[z,hd] at ha;cases ha),aA _ _ (fun z=>by rw[z,hfl] at ha;cases ha)];exact ha
 ·refine er (EK gs 0 ht.gsOk) ?_;exact k1 e
end
noncomputable def brF (v:V) (row col:Int):Nat→V:=upd (upd (upd (fun _=>.unb) 7 v) 2 (.int row)) 3 (.int col)
mutual
inductive Tr where
 |tok (t:Tk)
 |br (r c:Int) (l:TrL)
inductive TrL where
 |nil
 |cons (a:Tr) (r:TrL)
end
mutual
noncomputable def Tr.V:Tr→V
 |.tok t=>t.V
 |.br r c l=>.fobj 2 (brF (.lst l.Vs) r c)
noncomputable def TrL.Vs:TrL→List V
 |.nil=>[]
 |.cons a r=>a.V::r.Vs
end
noncomputable def TrL.snoc:TrL→Tr→TrL
 |.nil,a=>.cons a .nil
 |.cons b r,a=>.cons b (r.snoc a)
theorem TrL.snoc_Vs:∀(l:TrL) (a:Tr),(l.snoc a).Vs=l.Vs++[a.V]
 |.nil,a=>rfl
 |.cons b r,a=>by
  exact congrArg (b.V:: ·) (TrL.snoc_Vs r a)
theorem Tr.ok:∀a:Tr,a.V.ok=true
 |.tok t=>rfl
 |.br r c l=>rfl
structure Fr where
 b:Nat
 r:Int
 c:Int
 l:TrL
noncomputable def dq (stk:List (Int×Int×TrL)) (it:TrL) (a:Tr):List (Int×Int×TrL)×TrL:=match stk with
 |[]=>([],it.snoc a)
 |(r,c,l)::s=>((r,c,l.snoc a)::s,it)
noncomputable def cH:List Tk→List (Int×Int×TrL)→TrL→Except (Int×Int) TrL
 |[],[],it=>.ok it
 |[],(r,c,_)::_,_=>.error (r,c)
 |t::ts,stk,it=>match decide (t.s=[40]) with
  |true=>cH ts ((t.row,t.col,.nil)::stk) it
  |false=>match decide (t.s=[41]) with
   |true=>(match stk with
    |[]=>.error (t.row,t.col)
    |(r,c,l)::s=>cH ts (dq s it (.br r c l)).1 (dq s it (.br r c l)).2)
   |false=>cH ts (dq stk it (.tok t)).1 (dq stk it (.tok t)).2
theorem uy:cH (t::ts) stk it=match decide (t.s=[40]) with
  |true=>cH ts ((t.row,t.col,.nil)::stk) it
  |false=>match decide (t.s=[41]) with
   |true=>(match stk with
    |[]=>.error (t.row,t.col)
    |(r,c,l)::s=>cH ts (dq s it (.br r c l)).1 (dq s it (.br r c l)).2)
   |false=>cH ts (dq stk it (.tok t)).1 (dq stk it (.tok t)).2:=rfl
inductive spBrI (ds:List V) (σ:Sto) (K:Kx) (KE:Ke):Prop
 |mk (M4:Sto) (a:Nat) (v:V) (row col:Int) (h1:ds=[.obj 2 a,v,.int row,.int col]) (h2:v.ok=true) (h3:σ=M4.put a (.dict fun _=>.unb)) (h4:K .none (M4.put a (.dict (brF v row col)))):spBrI ds σ K KE
def zW (r:Except (Int×Int) TrL) (σ:Sto) (K:Kx) (KE:Ke):Prop:=match r with|.ok l=>K (.lst l.Vs) σ|.error p=>∀M1,Ext σ M1→KE p.1 p.2 M1
inductive spTrees (ds:List V) (σ:Sto) (K:Kx) (KE:Ke):Prop
 |mk (x:List Nat) (gs:List Gp) (f:Fi) (h1:ds=[.str x]) (h2:x.length≤aH) (h3:Tx x gs f) (h4:(cG 0 gs f=none→zW (cH (eC x 0 gs) [] .nil) σ K KE)) (h5:(∀e,cG 0 gs f=some e→∀c M1,(x[e]?=some 34∨c=bI x e)→Ext σ M1→KE (aY x e) c M1)):spTrees ds σ K KE
noncomputable def Fr.V (q:Fr):V:=.fobj 2 (brF (.lref q.b) q.r q.c)
noncomputable def Fr.t (q:Fr):Int×Int×TrL:=(q.r,q.c,q.l)
structure TI (σ M1:Sto) (o f:Nat) (stk:List Fr) (it:TrL) (k:Nat):Prop where
 base:Ext σ M1
 ho:M1 o=some (.list (stk.map Fr.V).reverse)
 hf:M1 f=some (.list it.Vs)
 hb:∀q∈stk,M1 q.b=some (.list q.l.Vs)
 nd:(o::f::stk.map Fr.b).Nodup
 new:∀a∈o::f::stk.map Fr.b,σ a=none
 ln:stk.length≤k∧it.Vs.length≤k∧∀q∈stk,q.l.Vs.length≤k
section
variable {KE:(Nat→V)→Ke} {d n fl:Nat} {x:List Nat}
theorem LN {ds:List V} {K:Kx} {KE:Ke} (h:spBrI ds σ K KE):Wlk Sp pF ds σ K KE:=by
 obtain⟨M4,a,v,row,col,rfl,hv,rfl,k⟩:=h;refine bw (eL rfl hv) kz hv (ai ..) ?_;refine bw kz kz rfl (ai ..) ?_;refine bw kz kz rfl (ai ..) ?_;rw[aM,aM,aM];exact k
theorem fA (h:Ext σ M1) (ha:σ a=none):Ext σ (M1.put a o):=fun b hb=>by
 have:b≠a:=fun z=>hb (z▸ha);rw[aA _ _ this];exact h b hb
noncomputable def zL (f:Nat):List Fr→Nat|[]=>f|q::_=>q.b
noncomputable def Ea (it:TrL):List Fr→TrL|[]=>it|q::_=>q.l
noncomputable def Lx (stk:List Fr) (a:Tr):List Fr:=match stk with|[]=>[]|q::s=>{q with l:=q.l.snoc a}::s
noncomputable def Lw (stk:List Fr) (it:TrL) (a:Tr):TrL:=match stk with|[]=>it.snoc a|_::_=>it
theorem Bt (stk:List Fr) (it:TrL) (a:Tr):dq (stk.map Fr.t) it a=((Lx stk a).map Fr.t,Lw stk it a):=by cases stk<;>rfl
theorem TI.top (T:TI σ M1 o f stk it k):M1 (zL f stk)=some (.list (Ea it stk).Vs)∧(Ea it stk).Vs.length≤k:=by
 induction stk with
 |nil=>exact⟨T.hf,T.ln.2.1⟩
 |cons q s=>exact⟨T.hb q (.head _),T.ln.2.2 q (.head _)⟩
theorem TI.add (T:TI σ M1 o f stk it k) (a:Tr):TI σ (M1.put (zL f stk) (.list ((Ea it stk).Vs++[a.V]))) o f (Lx stk a) (Lw stk it a) (k+1):=by
 obtain⟨h1,h2,h3,h4,h5,h6,h7,h8,h9⟩:=T
 induction stk with
 |nil=>
  have nof:o≠f:=fun z=>(i4.mp h5).1 (z▸ .head _);refine⟨fA h1 (h6 _ (.tail _ (.head _))),?_,?_,(fun q hq=>nomatch hq),h5,h6,g6 _,?_,fun q hq=>nomatch hq⟩
  ·show Sto.put _ f _ o=_;rw[aA _ _ nof];exact h2
  ·show Sto.put _ f _ f=_;rw[ai];exact congrArg (fun l=>some (AObj.list l)) (TrL.snoc_Vs it a).symm
  ·show(it.snoc a).Vs.length≤_;rw[TrL.snoc_Vs,b0];exact i9 h8
 |cons q s=>
  obtain⟨n1,n2⟩:=i4.mp h5;refine am (i4.mp n2) fun n3 n4=>?_;refine⟨fA h1 (h6 _ (.tail _ (.tail _ (.head _)))),?_,?_,fun p hp=>?_,h5,h6,j1 h7,j1 h8,fun p hp=>?_⟩
  ·show Sto.put _ q.b _ o=_;rw[aA _ _ (fun z=>n1 (.tail _ (z▸ .head _)):o≠q.b)];exact h2
  ·show Sto.put _ q.b _ f=_;rw[aA _ _ (fun z=>n3 (z▸ .head _):f≠q.b)];exact h3
  ·show Sto.put _ q.b _ p.b=_;rcases d0.mp hp with rfl|hp
   ·show Sto.put _ q.b _ q.b=some (.list (q.l.snoc a).Vs);rw[ai,TrL.snoc_Vs];rfl
   ·have:p.b≠q.b:=fun z=>(i4.mp n4).1 (z▸r6 hp);refine er (aA _ _ this) ?_;exact h4 p (.tail _ hp)
  ·rcases d0.mp hp with rfl|hp
   ·show(q.l.snoc a).Vs.length≤_;rw[TrL.snoc_Vs,b0];exact i9 (h9 q (.head _))
   ·exact j1 (h9 p (.tail _ hp))
theorem TI.push (T:TI σ M1 o f stk it k) (hb:M1 b=none) (r c:Int):TI σ ((M1.put b (.list [])).put o (.list ((stk.map Fr.V).reverse++[Fr.V ⟨b,r,c,.nil⟩]))) o f (⟨b,r,c,.nil⟩::stk) it (k+1):=by
 obtain⟨h1,h2,h3,h4,h5,h6,h7,h8,h9⟩:=T;have nob:o≠b:=fun z=>by rw[z,hb] at h2;cases h2
 have nfb:f≠b:=fun z=>by rw[z,hb] at h3;cases h3
 have nbs:∀q∈stk,q.b≠b:=fun q hq z=>by have:=h4 q hq;rw[z,hb] at this;cases this
 have bn:σ b=none:=by
  cases q:σ b with
  |none=>rfl
  |some v=>have:=h1 b (by rw[q];nofun);rw[hb,q] at this;cases this
 have nof:f≠o:=fun z=>(i4.mp h5).1 (z▸ .head _);refine⟨fA (fA h1 bn) (h6 _ (.head _)),?_,?_,fun p hp=>?_,?_,fun a ha=>?_,i9 h7,j1 h8,fun p hp=>?_⟩
 ·rw[ai,j3,l6]
 ·rw[aA _ _ nof,aA _ _ nfb];exact h3
 ·rcases d0.mp hp with rfl|hp
  ·rw[aA _ _ nob.symm,ai];rfl
  ·have:p.b≠o:=fun z=>(i4.mp h5).1 (.tail _ (z▸r6 hp));refine er (aA _ _ this) (er (aA _ _ (nbs p hp)) ?_);exact h4 p hp
 ·obtain⟨n1,n2⟩:=i4.mp h5;refine i4.mpr ⟨fun z=>?_,i4.mpr ⟨fun z=>?_,i4.mpr ⟨(fun z=>by obtain⟨q,hq,e⟩:=m5.mp z;exact nbs q hq e),(i4.mp n2).2⟩⟩⟩
  ·rcases d0.mp z with z|z
   ·exact nof z.symm
   ·rcases d0.mp z with z|z
    ·exact nob z
    ·exact n1 (.tail _ z)
  ·rcases d0.mp z with z|z
   ·exact nfb z
   ·exact(i4.mp n2).1 z
 ·rcases d0.mp ha with rfl|ha
  ·exact h6 _ (.head _)
  ·rcases d0.mp ha with rfl|ha
   ·exact h6 _ (.tail _ (.head _))
   ·rcases d0.mp ha with rfl|ha
    ·exact bn
    ·exact h6 _ (.tail _ (.tail _ ha))
 ·rcases d0.mp hp with rfl|hp
  ·exact g6 _
  ·exact j1 (h9 p hp)
theorem TI.pop (T:TI σ M1 o f (q::stk) it k):TI σ ((M1.put o (.list (stk.map Fr.V).reverse)).del q.b) o f stk it k∧Sub ((M1.put o (.list (stk.map Fr.V).reverse)).del q.b) (M1.put o (.list (stk.map Fr.V).reverse))∧Fz (M1.put o (.list (stk.map Fr.V).reverse)) ((M1.put o (.list (stk.map Fr.V).reverse)).del q.b) q.V (Tr.br q.r q.c q.l).V:=by
 obtain⟨h1,h2,h3,h4,h5,h6,h7,h8,h9⟩:=T;refine am (i4.mp h5) fun n1 n2=>?_;refine am (i4.mp n2) fun n3 n4=>?_;refine am (i4.mp n4) fun n5 n6=>?_;have gI {a:Nat} (h:a≠q.b):((M1.put o (.list (stk.map Fr.V).reverse)).del q.b) a=(M1.put o (.list (stk.map Fr.V).reverse)) a:=i3 h;have del_eq:((M1.put o (.list (stk.map Fr.V).reverse)).del q.b) q.b=none:=i7 rfl;have nob:o≠q.b:=fun z=>n1 (.tail _ (z▸ .head _));have nfb:f≠q.b:=fun z=>n3 (z▸ .head _);have bs:(M1.put o (.list (stk.map Fr.V).reverse)) q.b=some (.list q.l.Vs):=by rw[aA _ _ nob.symm];exact h4 q (.head _)
 refine⟨⟨fun a ha=>?_,?_,?_,fun p hp=>?_,?_,fun a ha=>?_,G6 h7,h8,fun p hp=>h9 p (.tail _ hp)⟩,fun a ob ha=>?_,?_⟩
 ·have:a≠q.b:=fun z=>ha (z▸(h6 _ (.tail _ (.tail _ (.head _)))));refine er (gI this) ?_;exact fA h1 (h6 _ (.head _)) a ha
 ·rw[gI nob,ai]
 ·rw[gI nfb,aA _ _ (fun z=>n1 (z▸ .head _):f≠o)];exact h3
 ·refine er (gI (fun z=>n5 (z▸r6 hp))) (er (aA _ _ (fun z=>n1 (.tail _ (.tail _ (z▸r6 hp))):p.b≠o)) ?_);exact h4 p (.tail _ hp)
 ·refine i4.mpr ⟨fun z=>n1 ?_,i4.mpr ⟨fun z=>n3 (.tail _ z),n6⟩⟩;rcases d0.mp z with z|z
  ·rw[z];exact .head _
  ·exact .tail _ (.tail _ z)
 ·rcases d0.mp ha with rfl|ha
  ·exact h6 _ (.head _)
  ·rcases d0.mp ha with rfl|ha
   ·exact h6 _ (.tail _ (.head _))
   ·exact h6 _ (.tail _ (.tail _ (.tail _ ha)))
 ·by_cases z:a=q.b
  ·rw[z,del_eq] at ha;cases ha
  ·rw[gI z] at ha;exact ha
 ·unfold Tr.V;refine .fobj fun i=>?_;unfold brF upd;by_cases e3:i=3
  ·rw[i7 e3,i7 e3];exact .same _
  refine er (i3 e3) (er (i3 e3) ?_);by_cases e2:i=2
  ·rw[i7 e2,i7 e2];exact .same _
  refine er (i3 e2) (er (i3 e2) ?_);by_cases e7:i=7
  ·rw[i7 e7,i7 e7];exact .lst bs del_eq (fw _)
  rw[i3 e7,i3 e7];exact .same _
end
section
set_option backward.match.sparseCases false
section
variable {gv:Nat→List Nat} {KE:(Nat→V)→Ke} {d n fl:Nat} {x:List Nat}
theorem eW (h:σ p=some (.list xs)):cb σ (.lref p)=some xs:=by
 show(match σ p with|some (.list xs)=>some xs|_=>none)=some xs;exact er h rfl
theorem nJ (ha:Ev Sp gv m σ a (.lref p) σ) (h:σ p=some (.list xs)):Ev Sp gv m σ (.blt 0 a) (.int xs.length) σ:=by
 refine dE ha fun K k=>?_;exact AC (f:=fun xs=>K (.int xs.length) σ) (eW h) k
theorem mR (ha:Ev Sp gv m σ a (.lref p) σ) (h:σ p=some (.list (ys++[v]))):Ev Sp gv m σ (.sub a (.neg (.lit (.int 1)))) v σ:=by
 refine dZ (j:=.int (-1)) ha kz fun K k=>?_;exact AC (f:=fun xs=>atK xs (-1) fun v=>K v σ) (eW h) (tx (σ:=σ) (l:=ys) (v:=v) (K:=K) k)
theorem qU (ha:Ev Sp gv m σ a (.lref p) σ) (h:σ p=some (.list (ys++[v]))):Ev Sp gv m σ (.pop a) v (σ.put p (.list ys)):=by
 refine fun K _ k=>ha (fun d J=>Lh d J K) _ ?_;refine lub (P:=fun xs=>match (generalizing:=false) xs.getLast? with|some v=>K v (σ.put p (.list xs.dropLast))|none=>False) h ?_;simp only[List.getLast?_concat,List.dropLast_concat];exact k
theorem iF (ho:Ev Sp gv m σ o (.fobj c fs) σ) (hf:fs f=v) (hv:v.ok=true):Ev Sp gv m σ (.attr o f) v σ:=
 fun K KE k=>ho _ _ (nub (P:=fun v=>K v σ) (by rw[hf];exact hv) (by rw[hf];exact k))
theorem FB {r:S} {L':Nat→Nat→List V} (hL:∀p q,gH [1,2] [.lref p,.lref q] L=some (L' p q)) (k:∀p q,σ p=none→(σ.put p (.list [])) q=none→vcS Sp gv r (fr (L' p q)) ((σ.put p (.list [])).put q (.list [])) Kn Kr Kb Kc KE):
  vcS Sp gv (.seq (.assignT [1,2] (.tup (.cons (.list true .nil) (.cons (.list true .nil) .nil)))) r) (fr L) σ Kn Kr Kb Kc KE:=by
 refine⟨g6 _,fun p hp=>⟨g6 _,fun q hq=>⟨show 2≤100 by decide,?_⟩⟩⟩;show cS (bi [1,2] [.lref p,.lref q] (fr L)) fun m'=>vcS Sp gv r m' ((σ.put p (.list [])).put q (.list [])) Kn Kr Kb Kc KE;refine dG (hL p q) ?_;exact k p q hp hq
theorem nP (h:Tx l gs f):∀n,(eC x n gs).length≤l.length:=by
 induction h with
 |nil=>exact fun _=>f3 _
 |sp _ _ ih=>exact fun n=>j1 (ih _)
 | @line cs l gs f _ _ _ ih=>
  intro n;have:=ih (n+(59::59::cs).length);refine b9 this ?_;show l.length≤(cs++l).length+1+1;refine er b0 ?_;lia
 | @block cs l gs f _ _ ih=>
  intro n;have:=ih (n+(40::59::cs).length);refine b9 this ?_;show l.length≤(cs++l).length+1+1;refine er b0 ?_;lia
 |blockO=>exact fun _=>g6 _
 |br _ _ _ ih=>exact fun n=>i9 (ih _)
 |lo _ _ _ ih=>exact fun n=>i9 (ih _)
 | @run ps l gs f hne _ _ _ ih=>
  intro n;refine cu (jA hne) fun c r e=>?_;have:=ih (n+(ae ps).length);show(eC x (n+(ae ps).length) gs).length+1≤_;have e2:0<(ae ps).length:=by rw[e];exact w7 _
  simp only[b0];lia
 |runO=>exact fun _=>g6 _
 |bad=>exact fun _=>g6 _
theorem pX (T:TI σ M1 o f stk it k) (hk:k<aH) (a:Tr) (k':∀gl,Kn (fr [x0,.lref f,.lref o,tk,a.V,gl]) (M1.put (zL f stk) (.list ((Ea it stk).Vs++[a.V])))):
  vcS Sp gv (.seq (.assign 5 (.ife (.cmp .gt (.blt 0 (.var 2)) (.lit (.int 0))) (.attr (.sub (.var 2) (.neg (.lit (.int 1)))) 7) (.var 1))) (.seq (.expr (.append (.var 5) (.var 4))) .skip)) (fr [x0,.lref f,.lref o,tk,a.V,go]) M1 Kn Kr Kb Kc KE:=by
 have ho:=T.ho;refine ak (d:=.lref (zL f stk)) (L':=[x0,.lref f,.lref o,tk,a.V,.lref (zL f stk)]) (bD (et_cmp (nJ kz ho) kz rfl) (fun t=>?_) fun t=>?_) rfl rfl ?_
 ·cases stk with
  |nil=>exact absurd t (by decide)
  |cons q s=>
   rw[j3,l6] at ho;exact iF (mR kz ho) rfl rfl
 ·cases stk with
  |nil=>exact kz
  |cons q s=>
   have:=g8 t;simp only[r7,f7,c6] at this;lia
 ·exact aE (bO kz T.top.1 (eL rfl a.ok) T.top.1 (j0 T.top.2 (v9 hk (by decide)))) (k' _)
theorem vN (h6:Sp 6=spBrI) {o f:Nat} {x0:V} {K:Kx} {KE:Ke}:∀(ts:List Tk) (stk:List Fr) (it:TrL) (k:Nat) (M1:Sto) (tk im gl:V),TI σ M1 o f stk it k→k+ts.length≤aH→
  zW (cH ts (stk.map Fr.t) it) σ K KE→
  fY 3 (fun _=>True) (fun m σ kn kb=>vcS Sp gvL rk.forB m σ kn K kb kn fun _=>KE) (fun m σ=>vcS Sp gvL rk.aft m σ (fun _ M1=>K .none M1) K (fun _ _=>False) (fun _ _=>False) (fun _=>KE)) (ts.map Tk.V) (fr [x0,.lref f,.lref o,tk,im,gl]) M1:=by
 intro zz
 induction zz with
 |nil=>
  intro stk it k M1 tk im gl T hk kk;simp only[List.map_nil]
  first|rw[bx]|rw[bH]
  have ho:=T.ho;cases stk with
  |nil=>
   refine aV (et_cmp (nJ kz ho) kz rfl) (fun t=>absurd t (by decide)) fun _=>?_;refine bB (gf kz (fun a ob ha=>?_) (.lst T.hf (T.new _ (.tail _ (.head _))) (fw _))) kk;rw[T.base a (by rw[ha];nofun)];exact ha
  |cons q s=>
   rw[j3,l6] at ho;refine aV (et_cmp (nJ kz ho) kz rfl) (fun _=>?_) fun t=>?_
   ·exact dJ kz (iF (mR kz ho) rfl rfl) (iF (mR kz ho) rfl rfl) (kk M1 T.base)
   ·have:=g8 t;rw[b0,e8] at this;lia
 |cons t ts ih=>
  intro stk it k M1 tk im gl T hk kk;simp only[j3]
  first|rw[bx]|rw[bH]
  refine er (bh rfl rfl) ?_;simp only[c6] at hk;rw[uy] at kk;have ho:=T.ho;refine aD (et_cmp kz kz rfl) (fun e=>?_) fun e=>?_
  ·rw[e] at kk;refine⟨lub (P:=fun _=>True) ho trivial,g6 _,fun b hb=>fun a ha=>?_⟩;show Sp 6 _ _ _ _;refine er h6 ?_;refine⟨_,a,.lref b,t.row,t.col,rfl,rfl,rfl,?_⟩;refine dub (ai ..) ?_;refine er (tZ ha) ?_;refine lub (xs:=(stk.map Fr.V).reverse) (by rw[aA _ _ (fun z=>by rw[z,hb] at ho;cases ho)];exact ho) ⟨?_,?_⟩
   ·simp only[r7,f7];exact j0 T.ln.1 (l3 (by lia) io)
   ·exact⟨trivial,ih _ it (k+1) _ _ _ _ (T.push hb t.row t.col) (by lia) kk⟩
  ·rw[e] at kk;refine ak kz (L':=[x0,.lref f,.lref o,t.V,t.V,gl]) rfl rfl ?_;refine aV (et_cmp kz kz rfl) (fun e=>?_) fun e=>?_
   ·simp only[e] at kk;cases stk with
    |nil=>
     exact aV (et_cmp (nJ kz ho) kz rfl) (fun _=>dJ kz kz kz (kk M1 T.base)) nofun
    |cons q s=>
     rw[j3,l6] at ho;refine aV (et_cmp (nJ kz ho) kz rfl) (fun t=>?_) fun _=>?_
     ·have:=c8 t;rw[b0,e8] at this;lia
     refine ak (gf (qU kz ho) T.pop.2.1 T.pop.2.2) (L':=[x0,.lref f,.lref o,t.V,(Tr.br q.r q.c q.l).V,gl]) rfl rfl ?_;refine pX T.pop.1 (by lia) (.br q.r q.c q.l) fun gl'=>⟨trivial,ih _ _ (k+1) _ _ _ _ (T.pop.1.add _) (by lia) ?_⟩;replace kk:zW (cH ts (dq (s.map Fr.t) it (.br q.r q.c q.l)).1 (dq (s.map Fr.t) it (.br q.r q.c q.l)).2) σ K KE:=kk;rw[(Bt s it (.br q.r q.c q.l))] at kk;exact kk
   ·rw[e] at kk;refine pX T (by lia) (.tok t) fun gl'=>⟨trivial,ih _ _ (k+1) _ _ _ _ (T.add _) (by lia) ?_⟩;rw[Bt] at kk;exact kk
theorem Eu (h6:Sp 6=spBrI) (h20:Sp 20=spTokens) {ds:List V} {K:Kx} {KE:Ke} (h:spTrees ds σ K KE):Wlk Sp rk ds σ K KE:=by
 obtain⟨x,gs,f,rfl,hx,ht,k1,k2⟩:=h;refine bk 5 ?_;refine FB (L':=fun p q=>[.str x,.lref p,.lref q,.unb,.unb,.unb]) (fun _ _=>rfl) fun p q hp hq=>?_;have npq:q≠p:=fun z=>by rw[z,ai] at hq;cases hq
 rw[aA _ _ npq] at hq;show Sp 20 _ _ _ _;refine er h20 ?_;refine⟨x,gs,f,rfl,hx,ht,fun e=>?_,fun e he c M1 hc hE=>k2 e he c M1 hc (nG hp (nG (by rw[aA _ _ npq];exact hq) hE))⟩;refine vN h6 (eC x 0 gs) [] .nil 0 _ _ _ _ ⟨fA (fA (fun _ _=>rfl) hp) hq,ai ..,?_,fun q hq=>(nomatch hq),?_,?_,f3 _,?_,fun q hq=>(nomatch hq)⟩ ?_ (k1 e)
 ·rw[aA _ _ npq.symm,ai];rfl
 ·exact i4.mpr ⟨fun z=>npq (j4.mp z),i4.mpr ⟨nofun,List.nodup_nil⟩⟩
 ·intro a ha;rcases d0.mp ha with rfl|ha
  ·exact hq
  ·rw[j4.mp ha];exact hp
 ·exact f3 _
 ·rw[C9];exact b9 (nP ht 0) hx
end
end
noncomputable def pq:Option (List Nat)→V|some o=>.bytes o|none=>.none
inductive spOct (ds:List V) (σ:Sto) (K:Kx) (KE:Ke):Prop
 |mk (x:_) (r:_) (h1:ds=[.str x]) (h2:x.length≤aH) (h3:Oc x r) (h4:K (pq r) σ):spOct ds σ K KE
theorem En (hd:∀c,ds.contains c=true→hxB c=true) (l:List Nat):∀(f:Int) (w:Bool),(∃c∈l,hxB c=false)→wgo b ds l f w=none:=by
 induction l with
 |nil=>exact fun f w h=>h.elim fun c h=>nomatch h.1
 |cons c l ih=>
  intro f w h;refine aj h fun e he hb=>?_;show(match decide (c=95) with
   |true=>(match w with|true=>wgo b ds l f false|false=>none)
   |false=>match ds.contains c with|true=>wgo b ds l (f*b+eR c) true|false=>none)=none
  rcases d0.mp he with q|he
  ·rw[q] at hb;exact er (c9 fun z=>by rw[z] at hb;exact noT hb.symm) (er (A4.mpr fun z=>noT (hb.symm.trans (hd c z))) rfl)
  ·have k:=fun f w=>ih f w ⟨e,he,hb⟩;cases decide (c=95) with
   |true=>cases w with
    |true=>exact k f false
    |false=>rfl
   |false=>cases ds.contains c with
    |true=>exact k _ true
    |false=>rfl
theorem JN (c:Nat) (h:(fe 16).contains c=true):hxB c=true:=by
 unfold hxB;rw[show bU.contains c=true from h];rfl
theorem yd (h:∃c∈l,hxB c=false):dC 16 l=none:=En JN l 0 false h
theorem uo (h:¬(a∈bU∧b∈bU)):dC 16 [a,b]=none:=by
 show(match decide (a=95) with|true=>none|false=>match (fe 16).contains a with|true=>wgo 16 (fe 16) [b] (0*16+eR a) true|false=>none)=none;cases decide (a=95) with
 |true=>rfl
 |false=>
  cases qa:(fe 16).contains a with
  |false=>rfl
  |true=>
   show(match decide (b=95) with|true=>none|false=>match (fe 16).contains b with|true=>wgo 16 (fe 16) [] ((0*16+eR a)*16+eR b) true|false=>none)=none;cases decide (b=95) with
   |true=>rfl
   |false=>
    cases qb:(fe 16).contains b with
    |false=>rfl
    |true=>exact absurd ⟨d6.mp qa,d6.mp qb⟩ h
theorem Dm:∀(u:List Nat) (k:Nat),(∀x∈u,x≠c)→bv c (u++c::l) k=((k+u.length:Nat):Int):=by
 intro zz
 induction zz with
 |nil=>
  intro k _;show(if c=c then((k:Nat):Int) else _)=_;rw[i7 rfl];rfl
 |cons x u ih=>
  intro k h;show(if x=c then((k:Nat):Int) else bv c (u++c::l) (k+1))=_;refine er (i3 (h x (.head _))) (er (ih (k+1) fun y hy=>h y (.tail _ hy)) (er c6 ?_));exact congrArg (fun n:Nat=>(n:Int)) (t4 k u.length)
theorem zd:∀(u:List Nat) (k:Nat),(∀x∈u,x≠c)→bv c u k= -1:=by
 intro zz
 induction zz with
 |nil=>
  intro k _;exact rfl
 |cons x u ih=>
  intro k h;show(if x=c then((k:Nat):Int) else bv c u (k+1))=_;exact er (i3 (h x (.head _))) (er (ih (k+1) fun y hy=>h y (.tail _ hy)) rfl)
theorem BX:∀u:List Nat,(∀x∈u,x≠c)∨∃a b,u=a++c::b∧∀x∈a,x≠c:=by
 intro zz
 induction zz with
 |nil=>
  exact .inl nofun
 |cons x u ih=>
  by_cases e:x=c
  ·exact .inr ⟨[],u,by rw[e];rfl,nofun⟩
  ·rcases ih with h|⟨a,b,rfl,h⟩
   ·exact .inl fun y hy=>(d0.mp hy).elim (fun z=>z▸e) (h y)
   ·exact .inr ⟨x::a,b,rfl,fun y hy=>(d0.mp hy).elim (fun z=>z▸e) (h y)⟩
def EsI (w:List Nat):Option (List Nat×Nat)→Prop
 |some (o,k)=>(∃b v l,w=b::l∧bP b=some v∧o=[v.toNat]∧k=1)∨(∃a b l,w=a::b::l∧a∈bU∧b∈bU∧o=[(eR a*16+eR b).toNat]∧k=2)∨
  ∃us r i,w=117::123::(us++r)∧(∀c∈us,hxB c=true)∧nh us r i∧o=hZ i.toNat∧k=us.length+3
 |none=>(∃l,w=117::l∧l.head?≠some 123)∨(∃us r,w=117::123::(us++r)∧(∀c∈us,hxB c=true)∧fR r∧¬∃i,nh us r i)∨
  ((∀b,w.head?=some b→bP b=none∧b≠117)∧∀a b r,w=a::b::r→¬(a∈bU∧b∈bU))
theorem Es.inv (h:Es w o):EsI w o:=by
 induction h with
 |sim h=>exact .inl ⟨_,_,_,rfl,h,rfl,rfl⟩
 |hex a b=>exact .inr (.inl ⟨_,_,_,rfl,a,b,rfl,rfl⟩)
 |uni a b c=>exact .inr (.inr ⟨_,_,_,rfl,a,c,rfl,rfl⟩)
 |badU h=>exact .inl ⟨_,rfl,h⟩
 |badV a b c=>exact .inr (.inl ⟨_,_,rfl,a,b,c⟩)
 |bad a b=>exact .inr (.inr ⟨a,b⟩)
theorem wZ (h:c<1114112):∀b∈hZ c,b<256:=
 iteInduction (motive:=fun l=>∀b∈l,b<256) (fun h=>dB (v9 h (by decide)) nofun) fun _=>iteInduction (motive:=fun l=>∀b∈l,b<256) (fun h=>dB (ya (n:=32) h (by decide)) (dB (mE _) nofun)) fun _=>
  iteInduction (motive:=fun l=>∀b∈l,b<256) (fun h=>dB (ya (n:=16) h (by decide)) (dB (mE _) (dB (mE _) nofun))) fun _=>dB (ya (n:=8) (v9 h (by decide)) (by decide)) (dB (mE _) (dB (mE _) (dB (mE _) nofun)))
theorem iV {k b:Nat} {v:Int} {r:Bool} {o:Option Int} (h:r=o.isSome):(decide ([k]=[b])||r)=(if b=k then some v else o).isSome:=by
 by_cases q:b=k
 ·rw[i7 q,q,f9 rfl];rfl
 ·rw[i3 q,c9 fun z=>q (j2 z).1.symm];exact h
theorem GI (b:Nat):(decide ([116]=[b])||(decide ([110]=[b])||(decide ([114]=[b])||(decide ([34]=[b])||(decide ([39]=[b])||(decide ([92]=[b])||false))))))=(bP b).isSome:=
 iV (iV (iV (iV (iV (iV rfl)))))
noncomputable def Ip:X:=.ife (.and (.cmp .gt (.var 5) (.bin .add (.var 2) (.lit (.int 2)))) (.cmp .eq (.sub (.var 0) (.bin .add (.var 2) (.lit (.int 2)))) (.lit (.str [123])))) (.call 28 (.cons (.slice (.var 0) (.bin .add (.var 2) (.lit (.int 3))) (.var 5)) (.cons (.lit (.int 16)) .nil))) (.lit .none)
section
variable {KE:(Nat→V)→Ke} {d n fl:Nat} {x:List Nat}
theorem tQ (ho:Ev Sp gvL m σ o (.lref a) σ) (ha:σ a=some (.list xs)) (he:Ev Sp gvL m σ e (.lst ys) J) (Nn:J a=some (.list xs)) (hl:xs.length+ys.length≤ah):Ev Sp gvL m σ (.extend o e) .none (J.put a (.list (xs++ys))):=by
 refine fun K _ k=>ho _ _ ⟨lub (P:=fun _=>True) ha trivial,he (fun M5 M2=>gL (.lref a) M5 M2 K) _ ?_⟩;exact lub (P:=fun xs=>xs.length+ys.length≤ah∧K .none (J.put a (.list (xs++ys)))) Nn ⟨hl,k⟩
theorem iA (a b:List Nat):bu (a++b)=bu a++bu b:=p0
theorem iz (a:List Nat):(bu a).length=a.length:=f7 _
noncomputable def ocF (x:List Nat) (a n:Nat) (s3 s4 s5 s6 s7:V):List V:=[.str x,.lref a,.int n,s3,s4,s5,s6,s7]
noncomputable def ocS (σ:Sto) (a:Nat) (bs:List Nat):Sto:=σ.put a (.list (bu bs))
end
section
variable {x:List Nat} {a n c:Nat} {s3 s4 s5 s6 s7:V} {l bs ys:List Nat} {K:Kx} {KE:(Nat→V)→Ke} {e:X}
theorem pO (h:x.drop n=c::l):Et Sp gvL (fr (ocF x a n s3 s4 s5 s6 s7)) σ aG.whC true:=by
 have q:Et Sp gvL (fr (ocF x a n s3 s4 s5 s6 s7)) σ aG.whC (decide ((n:Int)<x.length)):=kz;simp only[f9 (u7.mpr (af h).2.1)] at q;exact q
theorem Ed (ha:σ a=none) (k:K .none σ):vcS Sp gvL (.seq (.ret (.frz (.lit .none))) r) (fr L) (ocS σ a bs) Kn K Kb Kc KE:=bB (gf kz (jU ha) (.same _)) k
theorem Ig (h:x.drop n=c::l) (k:vcS Sp gvL aG.whB.aft1 (fr (ocF x a n (.str [c]) (.str (l.take 1)) s5 s6 s7)) σ Kn K Kb Kc KE):vcS Sp gvL aG.whB (fr (ocF x a n s3 s4 s5 s6 s7)) σ Kn K Kb Kc KE:=by
 have M:=gd (Sp:=Sp) (gv:=gvL) (m:=fr (ocF x a n s3 s4 s5 s6 s7)) (σ:=σ) (a:=.var 0) (lo:=.bin .add (.var 2) (.lit (.int 1))) (hi:=.bin .add (.var 2) (.lit (.int 2))) (x:=x) (n:=n+1) (k:=n+2) kz kz kz;simp only[(af h).2.2,show n+2 - (n+1)=1 from Nat.add_sub_add_left n 2 1] at M;exact aX (ds:=[.str [c],.str (l.take 1)]) (L':=ocF x a n (.str [c]) (.str (l.take 1)) s5 s6 s7) (aK (ag (eO (n:=n) kz kz (af h).1) (ag M au)) rfl) rfl k
theorem Lj (he:Ev Sp gvL (fr (ocF x a n s3 s4 s5 s6 s7)) (ocS σ a bs) e (.lst (bu ys)) (ocS σ a bs)) (hl:bs.length+ys.length≤ah):Ev Sp gvL (fr (ocF x a n s3 s4 s5 s6 s7)) (ocS σ a bs) (.extend (.var 1) e) .none (ocS σ a (bs++ys)):=by
 have q:=tQ (m:=fr (ocF x a n s3 s4 s5 s6 s7)) (σ:=ocS σ a bs) (o:=.var 1) (xs:=bu bs) kz (ai ..) he (ai ..) (by rw[iz,iz];exact hl);rw[show(ocS σ a bs).put a _=_ from aM ..,←iA] at q;exact q
theorem Lk (hv:0≤v) (he:Ev Sp gvL (fr (ocF x a n s3 s4 s5 s6 s7)) (ocS σ a bs) e (.int v) (ocS σ a bs)) (hl:bs.length<ah):Ev Sp gvL (fr (ocF x a n s3 s4 s5 s6 s7)) (ocS σ a bs) (.append (.var 1) e) .none (ocS σ a (bs++[v.toNat])):=by
 have q:=bO (m:=fr (ocF x a n s3 s4 s5 s6 s7)) (σ:=ocS σ a bs) (o:=.var 1) (xs:=bu bs) kz (ai ..) he (ai ..) (by rw[iz];exact hl);rw[show(ocS σ a bs).put a _=_ from aM ..] at q;unfold ocS;simp only[iA,show bu [v.toNat]=[.int v] from congrArg (fun i=>[V.int i]) (K6 hv)];exact q
theorem MG:Et Sp gvL (fr (ocF x a n s3 (.str [c]) s5 s6 s7)) σ (.cmp .inn (.var 4) (.tup (.cons (.lit (.str [116])) (.cons (.lit (.str [110])) (.cons (.lit (.str [114])) (.cons (.lit (.str [34])) (.cons (.lit (.str [39])) (.cons (.lit (.str [92])) .nil)))))))) (bP c).isSome:=by
 simp only[←GI];exact et_cmp kz (aK kz rfl) rfl
theorem MF:Et Sp gvL (fr (ocF x a n s3 (.str [c]) s5 s6 s7)) σ (.cmp .eq (.var 4) (.lit (.str [117]))) (decide (c=117)):=et_cmp kz kz (congrArg some fg)
theorem Af (h28:Sp 28=spWhole') (hu:u.length≤aH) (he:Ev Sp gvL (fr L) σ e (.str u) σ):Ev Sp gvL (fr L) σ (.call 28 (.cons e (.cons (.lit (.int 16)) .nil))) (dy (dC 16 u)) σ:=
 bt (ag he (ag kz au)) fun K KE k=>h28▸⟨u,16,rfl,.inr rfl,j0 hu (by decide),k⟩
theorem Hy (h:x.drop j=u++r) (hlo:Ev Sp gvL (fr (ocF x a n s3 s4 s5 s6 s7)) σ lo (.int j) σ) (hhi:Ev Sp gvL (fr (ocF x a n s3 s4 s5 s6 s7)) σ hi (.int (j+u.length:Nat)) σ):Ev Sp gvL (fr (ocF x a n s3 s4 s5 s6 s7)) σ (.slice (.var 0) lo hi) (.str u) σ:=by
 have M:=gd (Sp:=Sp) (gv:=gvL) (m:=fr (ocF x a n s3 s4 s5 s6 s7)) (σ:=σ) (a:=.var 0) (x:=x) kz hlo hhi;simp only[h,j7,z6] at M;exact M
theorem JB (h27:Sp 27=fM) (h:x.drop n=c::l) (hc:vc c) (hg:kT c) (hb:bs.length+4≤ah) (k:Kn (fr (ocF x a (n+1) (.str [c]) (.str (l.take 1)) s5 s6 s7)) (ocS σ a (bs++hZ c))):vcS Sp gvL aG.whB (fr (ocF x a n s3 s4 s5 s6 s7)) (ocS σ a bs) Kn K Kb Kc KE:=by
 refine av fun gP gO=>?_;refine Ir hc fun c1 c2 c3 c4=>?_;refine gO ?_;refine Ig h ?_;refine aD (t:= !decide ([c]=[92])) kz (fun _=>?_) fun t=>absurd (j2 (c8 (nf t))).1 c2;refine aV (et_or (t:=decide ((c:Int)<32)) (u:=decide ((c:Int)=127)) kz fun _ _ _ k=>k) (fun t=>?_) fun _=>?_
 ·exact(l8.mp t).elim (fun t=>absurd (ltI (n:=32) t) (t8.mpr c3)) fun t=>absurd (Int.ofNat_inj.mp (c8 t)) c4
 refine aE (Lj (bt (ag (d:=.int c) kz au) fun K KE k=>h27▸⟨c,rfl,hg.1,k⟩) (b9 (i6 (gq c) _) hb)) ?_;exact ak (d:=.int (n+1:Nat)) kz rfl rfl k
theorem JA (ha:σ a=none) (h:x.drop n=c::l) (hc:c<32∨c=127) (k:K .none σ):vcS Sp gvL aG.whB (fr (ocF x a n s3 s4 s5 s6 s7)) (ocS σ a bs) Kn K Kb Kc KE:=by
 refine Ig h ?_;refine aD (t:= !decide ([c]=[92])) kz (fun _=>?_) fun t=>?_
 ·refine aV (et_or (t:=decide ((c:Int)<32)) (u:=decide ((c:Int)=127)) kz fun _ _ _ k=>k) (fun _=>Ed ha k) fun t=>?_;exact hc.elim (fun z=>absurd z (geI (n:=32) (m4.mp t).1)) fun z=>absurd (congrArg (fun n:Nat=>(n:Int)) z) (g8 (m4.mp t).2)
 ·have e:=(j2 (c8 (nf t))).1;rw[e] at hc;exact absurd hc (by decide)
theorem wO (h:x.drop n=92::c::l) (ks:∀v,bP c=some v→vcS Sp gvL aG.whB.aft1.iteB.iteA (fr (ocF x a n (.str [92]) (.str [c]) s5 s6 s7)) σ Kn K Kb Kc KE)
  (ku:bP c=none→c=117→vcS Sp gvL aG.whB.aft1.iteB.iteB.iteA (fr (ocF x a n (.str [92]) (.str [c]) s5 s6 s7)) σ Kn K Kb Kc KE)
  (kh:bP c=none→c≠117→vcS Sp gvL aG.whB.aft1.iteB.iteB.iteB (fr (ocF x a n (.str [92]) (.str [c]) s5 s6 s7)) σ Kn K Kb Kc KE):vcS Sp gvL aG.whB (fr (ocF x a n s3 s4 s5 s6 s7)) σ Kn K Kb Kc KE:=by
 refine Ig h ?_;refine aD (t:=false) kz nofun fun _=>?_;refine aD MG (fun t=>?_) fun t=>?_
 ·obtain⟨v,e⟩:=d9.mp t;exact ks v e
 have t:=Option.isSome_eq_false_iff.mp t;exact aD MF (fun u=>ku (A7.mp t) (c8 u)) fun u=>kh (A7.mp t) (g8 u)
theorem Jv (he:bP c=some v) (h:x.drop n=92::c::l) (hb:bs.length<ah) (k:Kn (fr (ocF x a (n+2) (.str [92]) (.str [c]) s5 s6 s7)) (ocS σ a (bs++[v.toNat]))):vcS Sp gvL aG.whB (fr (ocF x a n s3 s4 s5 s6 s7)) (ocS σ a bs) Kn K Kb Kc KE:=by
 refine wO h (fun _ _=>?_) (fun e=>noS (e.symm.trans he)) fun e=>noS (e.symm.trans he);refine aE (Lk (v:=v) (qW he).1 (fun K KE k=>?_) hb) ?_
 ·show cS (bP c) fun i=>K (.int i) _;rw[he];exact k
 ·exact ak (d:=.int (n+2:Nat)) kz rfl rfl k
theorem Jw (h28:Sp 28=spWhole') (hp:p∈bU) (hq:q∈bU) (h:x.drop n=92::p::q::l) (hb:bs.length<ah) (k:Kn (fr (ocF x a (n+3) (.str [92]) (.str [p]) s5 s6 (.str [p,q]))) (ocS σ a (bs++[(eR p*16+eR q).toNat]))):vcS Sp gvL aG.whB (fr (ocF x a n s3 s4 s5 s6 s7)) (ocS σ a bs) Kn K Kb Kc KE:=by
 refine wO h (fun _ e=>noS ((fP p hp).1.symm.trans e)) (fun _ e=>((fP p hp).2.1 e).elim) fun _ _=>?_;refine ak (L':=ocF x a n (.str [92]) (.str [p]) s5 s6 (.str [p,q])) (Hy (u:=[p,q]) (r:=l) (af h).2.2 kz kz) rfl rfl ?_;have C:=Af (u:=[p,q]) (L:=ocF x a n (.str [92]) (.str [p]) s5 s6 (.str [p,q])) (σ:=ocS σ a bs) h28 (show 2≤aH by decide) (e:=.var 7) kz;rw[Av hp hq] at C;refine aV (t:=false) (et_or (t:=false) (u:=false) kz fun _=>et_cmp C kz rfl) nofun fun _=>?_;refine aE (Lk (Int.add_nonneg (Int.mul_nonneg (cM p hp) (by decide)) (cM q hq)) C hb) ?_;exact ak (d:=.int (n+3:Nat)) kz rfl rfl k
theorem qN (h27:Sp 27=fM) (ha:σ a=none) (hn:n<x.length) (h:x.drop n=92::117::l) (hcl:bv 125 (92::117::l) n=cl)
  (hnum:Ev Sp gvL (fr (ocF x a n (.str [92]) (.str [117]) (.int cl) s6 s7)) (ocS σ a bs) Ip (dy num) (ocS σ a bs)) (hi:∀i,num=some i→0≤i) (hb:bs.length+4≤ah)
  (k1:∀i,num=some i→mZ i→∃m:Nat,cl+1=m∧Kn (fr (ocF x a m (.str [92]) (.str [117]) (.int cl) (.int i) s7)) (ocS σ a (bs++hZ i.toNat))) (k2:(∀i,num=some i→¬mZ i)→K .none σ):
  vcS Sp gvL aG.whB (fr (ocF x a n s3 s4 s5 s6 s7)) (ocS σ a bs) Kn K Kb Kc KE:=by
 refine wO h nofun (fun _ _=>?_) fun _ e=>absurd rfl e;refine ak (M1:=ocS σ a bs) (d:=.int cl) (L':=ocF x a n (.str [92]) (.str [117]) (.int cl) s6 s7) (fun K _ k=>⟨trivial,⟨g9 _,n8.mpr (B2 hn)⟩,?_⟩) rfl rfl ?_
 ·rw[r9,h,hcl];exact k
 refine ak (L':=ocF x a n (.str [92]) (.str [117]) (.int cl) (dy num) s7) hnum rfl rfl ?_;have v6:Ev Sp gvL (fr (ocF x a n (.str [92]) (.str [117]) (.int cl) (dy num) s7)) (ocS σ a bs) (.var 6) (dy num) (ocS σ a bs):=eL rfl mM
 induction num with
 |none=>exact aV (t:=true) (et_or (t:=true) (u:=false) (et_cmp v6 kz rfl) nofun) (fun _=>Ed ha (k2 nofun)) nofun
 |some i=>
  refine aV (t:=decide (i>1114111)||(decide (55296≤i)&&decide (i<57344))) (et_or (t:=false) kz fun _=>et_or kz fun _=>et_cmp2 kz kz kz rfl rfl) (fun t=>Ed ha (k2 fun j hj hv=>?_)) fun t=>?_
  ·obtain rfl:=c7 hj;refine am hv fun v1 v2=>?_;exact(l8.mp t).elim (fun t=>absurd v1 (r8.mpr (c8 t))) fun t=>v2 ⟨c8 (d8.mp t).1,c8 (d8.mp t).2⟩
  ·refine am (m4.mp t) fun t1 t2=>?_;have hv:mZ i:=⟨Int.lt_add_one_of_le (r8.mp (g8 t1)),fun z=>by rw[f9 z.1,f9 z.2] at t2;exact noT t2.symm⟩;refine aj (k1 i rfl hv) fun m em k1=>?_;have e:=K6 (hi i rfl);refine aE (Lj (bt (ag (d:=.int i) kz au) fun K KE k=>h27▸⟨i.toNat,by rw[e],(x8 (hi i rfl)).mpr hv.1,k⟩) (b9 (i6 (gq _) _) hb)) ?_;exact ak (d:=.int m) (em▸kz) rfl rfl k1
theorem HA (h:x.drop n=92::117::l) (hc:cl≤(n:Int)+2∨l.head?≠some 123) (hl:l=[]→cl≤(n:Int)+2):Ev Sp gvL (fr (ocF x a n (.str [92]) (.str [117]) (.int cl) s6 s7)) σ Ip (dy none) σ:=by
 by_cases q:cl≤(n:Int)+2
 ·refine bD (t:=false) (et_and (t:=false) (u:=false) ?_ nofun) nofun fun _=>kz;rw[←(c9 (r8.mpr q))];exact kz
 ·induction l with
  |nil=>exact absurd (hl rfl) q
  |cons c l=>
   have h2:=(af (af (af h).2.2).2.2).1;have nc:decide ([c]=[123])=false:=by rw[fg];exact c9 fun z=>hc.resolve_left q (congrArg some z)
   refine bD (t:=decide (cl>(n:Int)+2)&&decide ([c]=[123])) (et_and kz fun _=>et_cmp (eO (n:=n+2) kz kz h2) kz rfl) (fun t=>?_) fun _=>kz;rw[nc,v4] at t;exact noT t
theorem Hz (h28:Sp 28=spWhole') (hx:x.length≤aH) (h:x.drop n=92::117::123::(u++r)):Ev Sp gvL (fr (ocF x a n (.str [92]) (.str [117]) (.int (n+3+u.length:Nat)) s6 s7)) σ Ip (dy (dC 16 u)) σ:=by
 have h2:=af (af (af h).2.2).2.2;have hu:u.length≤aH:=by
  have:=bM h2.2.2 h2.2.1;rw[b0] at this;exact b9 (b9 (b9 (f6 _ r.length) (m7 _ _)) (j8 this)) hx
 refine bD (t:=true) (et_and (t:=true) (u:=true) ?_ fun _=>et_cmp (eO (n:=n+2) kz kz h2.1) kz rfl) (fun _=>Af h28 hu (Hy (j:=n+3) h2.2.2 kz kz)) nofun;rw[←(f9 (u7.mpr (l3 (r5 (n+2)) (f6 ..))):decide (((n+3+u.length:Nat):Int)>(n:Int)+2)=true)];exact kz
theorem JC (h28:Sp 28=spWhole') (hx:x.length≤aH) (ha:σ a=none) (h:x.drop n=92::c::l) (u1:bP c=none) (u3:c≠117) (u2:∀b r,l=b::r→¬(c∈bU∧b∈bU)) (k:K .none σ):vcS Sp gvL aG.whB (fr (ocF x a n s3 s4 s5 s6 s7)) (ocS σ a bs) Kn K Kb Kc KE:=by
 refine wO h (fun _ e=>noS (u1.symm.trans e)) (fun _ e=>(u3 e).elim) fun _ _=>?_;have M:=gd (Sp:=Sp) (gv:=gvL) (m:=fr (ocF x a n (.str [92]) (.str [c]) s5 s6 s7)) (σ:=ocS σ a bs) (a:=.var 0) (lo:=.bin .add (.var 2) (.lit (.int 1))) (hi:=.bin .add (.var 2) (.lit (.int 3))) (x:=x) (n:=n+1) (k:=n+3) kz kz kz;simp only[(af h).2.2,show n+3 - (n+1)=2 from Nat.add_sub_add_left n 3 1] at M;refine ak (L':=ocF x a n (.str [92]) (.str [c]) s5 s6 (.str ((c::l).take 2))) M rfl rfl ?_;refine aV (t:=true) ?_ (fun _=>Ed ha k) nofun
 induction l with
 |nil=>exact et_or (t:=true) (u:=false) kz nofun
 |cons b l=>
  have C:=Af (u:=[c,b]) (L:=ocF x a n (.str [92]) (.str [c]) s5 s6 (.str [c,b])) (σ:=ocS σ a bs) h28 (show 2≤aH by decide) (e:=.var 7) kz;simp only[uo (u2 b l rfl)] at C;exact et_or (t:=false) (u:=true) kz fun _=>et_cmp C kz rfl
def OcW (Sp:Nat→aP) (x:List Nat) (a:Nat) (σ:Sto) (K:Kx) (KE:(Nat→V)→Ke) (Kn:(Nat→V)→Sto→Prop) (l:List Nat) (r:Option (List Nat)):Prop:=
 ∀(n:Nat) (bs:List Nat) (s3 s4 s5 s6 s7:V),n≤x.length→x.drop n=l→(∀b∈bs,b<256)→bs.length+4*l.length≤ah→K (pq (r.map (bs++ ·))) σ→
  ∃f,Wh Sp aG.whC aG.whB K KE Kn f (fr (ocF x a n s3 s4 s5 s6 s7)) (ocS σ a bs)
theorem HB (ih:OcW Sp x a σ K KE Kn l r) (hn:n≤x.length) (h:x.drop n=w++l) (hb:∀b∈bs,b<256) (hob:∀b∈o,b<256) (hw:1≤w.length) (ho:o.length≤4) (hl:bs.length+4*(w++l).length≤ah) (k:K (pq ((r.map (o++ ·)).map (bs++ ·))) σ):
  ∃f,Wh Sp aG.whC aG.whB K KE Kn f (fr (ocF x a (n+w.length) s3 s4 s5 s6 s7)) (ocS σ a (bs++o)):=by
 have hlen:=bM h hn;rw[b0] at hlen hl;refine ih _ _ _ _ _ _ _ (b9 (f6 _ _) (j8 ((g5 n w.length l.length).trans hlen))) (aT h) (fun b h=>(m8.mp h).elim (hb b) (hob b)) (b9 (by rw[b0,g5,Nat.mul_add];exact i6 (y3 (b9 ho (l4 4 hw)) _) _) hl) ?_;rw[Option.map_map] at k;refine er (show(fun x=>bs++o++x)=(fun x=>bs++x)∘(fun x=>o++x) from funext fun y=>e9 ..) ?_;exact k
theorem JL {us:List Nat} (h:∀c∈us,hxB c=true):∀c∈us,c≠125:=fun c hc z=>by have:=h c hc;rw[z] at this;exact noT this
theorem Gk (h:∀c∈l,c≠125):bv 125 (92::117::l) n= -1:=zd l (n+2) h
theorem xB (h:∀c∈u,c≠125):bv 125 (92::117::123::(u++125::r)) n=((n+3+u.length:Nat):Int):=Dm u (n+3) h
theorem Jx (h27:Sp 27=fM) (h28:Sp 28=spWhole') (ha:σ a=none) (hx:x.length≤aH) {u o:List Nat} {r:Option (List Nat)} (he:Es (u++l) (some (o,u.length))) (hu0:u≠[]) (hol:o.length≤4) (ih:OcW Sp x a σ K KE Kn l r):OcW Sp x a σ K KE Kn (92::(u++l)) (r.map (o++ ·)):=by
 intro n bs s3 s4 s5 s6 s7 hn h hb hl k;have go (hob:∀b∈o,b<256) (s3 s4 s5 s6 s7:V):=HB (s3:=s3) (s4:=s4) (s5:=s5) (s6:=s6) (s7:=s7) ih (w:=92::u) hn h hb hob (w7 _) hol hl k;have hbs:bs.length+4≤ah:=b9 (i6 (l4 4 (w7 _)) _) hl;rcases he.inv with ⟨b,v,l',e1,e2,e3,e4⟩|⟨p,q,l',e1,e2,e3,e4,e5⟩|⟨us,r',i,e1,e2,e3,e4,e5⟩
 ·refine av fun gP gO=>?_;refine am (qW e2) fun v0 v1=>?_;refine ar (go (fun b hb=>by rw[e3] at hb;rw[j4.mp hb];exact(x8 v0).mpr v1) (.str [92]) (.str [b]) s5 s6 s7) fun f hf=>?_;rw[e1] at h;rw[c6,e4,e3] at hf;refine gO ?_;exact⟨f+1,aL (pO h) (Jv e2 h (l3 (y8 (by decide)) hbs) hf)⟩
 ·have d1:=(fP p e2).2.2.2;have d2:=(fP q e3).2.2.2;refine ar (go (fun b hb=>by rw[e4] at hb;rw[j4.mp hb];exact(x8 (Int.add_nonneg (Int.mul_nonneg (cM p e2) (by decide)) (cM q e3))).mpr (K8 (Int.add_le_add (Int.mul_le_mul_of_nonneg_right d1 (by decide)) d2) (by decide))) (.str [92]) (.str [p]) s5 s6 (.str [p,q])) fun f hf=>?_;rw[e1] at h;rw[c6,e5,e4] at hf;exact⟨f+1,aL (pO h) (Jw h28 e2 e3 h (l3 (y8 (by decide)) hbs) hf)⟩
 ·refine ar (go (fun b hb=>by rw[e4] at hb;exact wZ ((x8 (dQ e3.2.1)).mpr e3.2.2.1) b hb) (.str [92]) (.str [117]) (.int (n+3+us.length:Nat)) (.int i) s7) fun f hf=>?_;rw[c6,e5,e4] at hf;rw[e1] at h
  induction r' with
  |nil=>exact noS e3.1
  |cons c r2=>
   rw[(c7 e3.1)] at h;have N:=Hz (Sp:=Sp) (a:=a) (s6:=s6) (s7:=s7) (σ:=ocS σ a bs) h28 hx h;simp only[e3.2.1] at N;refine⟨f+1,aL (pO h) (qN h27 ha (af h).2.1 h (xB (JL e2)) N (fun j hj=>dQ (e3.2.1.trans hj)) hbs (fun j hj _=>⟨_,rfl,?_⟩) fun z=>(z i rfl e3.2.2).elim)⟩;refine er (c7 hj).symm ?_;refine er (show n+3+us.length+1=n+(us.length+3+1) by rw[g5 n,l5 3];rfl) ?_;exact hf
theorem Jy (h27:Sp 27=fM) (h28:Sp 28=spWhole') (ha:σ a=none) (hx:x.length≤aH) (hl0:l≠[]) (he:Es l none):OcW Sp x a σ K KE Kn (92::l) none:=by
 intro n bs s3 s4 s5 s6 s7 hn h hb hl k;replace k:K .none σ:=k;have hbs:bs.length+4≤ah:=b9 (i6 (l4 4 (w7 _)) _) hl;have hn:=(af h).2.1;refine⟨1,aL (pO h) ?_⟩;rcases he.inv with ⟨l,rfl,u1⟩|⟨us,r,rfl,u1,u2,u3⟩|⟨u1,u2⟩
 ·refine qN h27 ha hn h rfl (HA h (.inr u1) fun z=>?_) nofun hbs nofun fun _=>k;have e:bv 125 (92::117::l) n= -1:=by rw[z];rfl
  rw[e];exact u5 (by decide:(-1:Int)≤0) (g9 (n+2))
 ·rcases BX (c:=125) (us++r) with hs|⟨u',r',e,hs⟩
  ·refine qN h27 ha hn h (Gk fun c hc=>(d0.mp hc).elim (fun z=>by rw[z];decide) (hs c)) (HA h (.inl (u5 (by decide:(-1:Int)≤0) (g9 (n+2)))) nofun) nofun hbs nofun fun _=>k
  ·rw[e] at h;refine qN h27 ha hn h (xB hs) (Hz h28 hx h) (fun j hj=>dQ hj) hbs (fun j hj hv=>?_) fun _=>k;exfalso;rcases List.append_eq_append_iff.mp e with ⟨z,z1,z2⟩|⟨z,z1,z2⟩
   ·cases z with
    |nil=>
     simp only[d7] at z1;exact u3 ⟨j,(congrArg List.head? z2).trans rfl,z1▸hj,hv⟩
    |cons c z=>exact noS ((yd ⟨c,by rw[z1];exact k8 _ (.head _),u2 c (by rw[z2];rfl)⟩).symm.trans hj)
   ·cases z with
    |nil=>
     simp only[d7] at z1;exact u3 ⟨j,(congrArg List.head? z2.symm).trans rfl,z1▸hj,hv⟩
    |cons c z=>
     exact noT (u1 125 (by rw[z1,(j2 z2).1];exact k8 _ (.head _)))
 ·induction l with
  |nil=>exact absurd rfl hl0
  |cons b l=>
   exact JC h28 hx ha h (u1 b rfl).1 (u1 b rfl).2 (fun c r e=>u2 b c r (congrArg (b:: ·) e)) k
theorem Cw (h27:Sp 27=fM) (h28:Sp 28=spWhole') (ha:σ a=none) (hx:x.length≤aH) (he:∀n bs s3 s4 s5 s6 s7,K (.bytes bs) σ→(∀b∈bs,b<256)→Kn (fr (ocF x a n s3 s4 s5 s6 s7)) (ocS σ a bs)) (ho:Oc l r):OcW Sp x a σ K KE Kn l r:=by
 induction ho with
 |nil=>
  intro n bs s3 s4 s5 s6 s7 hn h hb hl k;refine⟨1,fm ?_ (he n bs s3 s4 s5 s6 s7 ?_ hb)⟩
  ·have q:Et Sp gvL (fr (ocF x a n s3 s4 s5 s6 s7)) (ocS σ a bs) aG.whC (decide ((n:Int)<x.length)):=kz;rw[c9 (r8.mpr (n8.mpr (o9.mp h)))] at q;exact q
  ·rw[←d7 bs];exact k
 |chr hc hg ho ih=>
  intro n bs s3 s4 s5 s6 s7 hn h hb hl k;obtain⟨f,hf⟩:=HB ih (w:=[_]) hn h hb (wZ hg.1) (f3 _) (gq _) hl k;exact⟨f+1,aL (pO h) (JB h27 h hc hg (b9 (i6 (l4 4 (w7 _)) _) hl) hf)⟩
 |ctl c1 nl c2=>
  intro n bs s3 s4 s5 s6 s7 hn h hb hl k;exact⟨1,aL (pO h) (JA ha h c2 k)⟩
 |esc he hu0 hu hol ho ih=>exact Jx h27 h28 ha hx he hu0 hol ih
 |bad hl0 he=>exact Jy h27 h28 ha hx hl0 he
theorem Jz (ha:σ a=none) (k:K (.bytes bs) σ) (hb:∀b∈bs,b<256):vcS Sp gvL aG.aft (fr (ocF x a n s3 s4 s5 s6 s7)) (ocS σ a bs) Kn K Kb Kc KE:=by
 refine bB (d:=.bytes bs) (gf (dE (v:=.bytes bs) kz fun K k=>?_) (jU ha) (.same _)) k;refine xt (f:=fun is=>(∀i∈is,0≤i∧i<256)∧K (.bytes (is.map Int.toNat)) (ocS σ a bs)) ((congrArg (Option.bind · bS) (eW (p:=a) (ai ..))).trans (nY _)) ⟨fun i hi=>?_,?_⟩
 ·refine aj (m5.mp hi) fun c h z2_=>?_;subst z2_;exact⟨g9 _,u7.mpr (hb c h)⟩
 ·rw[oG];exact k
end
theorem LH (h27:Sp 27=fM) (h28:Sp 28=spWhole') {ds:List V} {K:Kx} {KE:Ke} (h:spOct ds σ K KE):Wlk Sp aG ds σ K KE:=by
 obtain⟨x,r,rfl,hx,ho,k⟩:=h;refine bk 7 ?_;refine⟨g6 _,fun a ha=>⟨show 2≤100 by decide,?_⟩⟩;show cS (bi [1,2] [.lref a,.int (0:Nat)] (fr [.str x,.unb,.unb,.unb,.unb,.unb,.unb,.unb])) fun m'=>vcS Sp gvL aG.aft1 m' (ocS σ a []) (fun _ M1=>K .none M1) K (fun _ _=>False) (fun _ _=>False) (fun _=>KE);refine dG (L':=ocF x a 0 .unb .unb .unb .unb .unb) rfl ?_;refine dI (Cw h27 h28 ha hx (fun n bs s3 s4 s5 s6 s7 k hb=>Jz ha k hb) ho 0 [] _ _ _ _ _ (g6 _) rfl nofun ?_ ?_)
 ·exact b9 (i6 (l4 4 hx) _) (by decide)
 ·refine er (show(fun y:List Nat=>[]++y)=id from rfl) (er Option.map_id ?_);exact k
noncomputable def eN:List Nat:=[108,105,110,101]
noncomputable def df:List Nat:=[98,108,111,99,107]
noncomputable def sJ:List Nat:=[115,116,114,105,110,103]
noncomputable def chV (ms:List Nat):List V:=ms.map fun c=>V.str [c]
structure LC where
 Sp:Nat→aP
 σ:Sto
 m:Nat
 b:Nat
 x:List Nat
 K:Kx
 KE:Ke
 hmb:m≠b
 Nk:σ m=none
 hx:x.length≤aH
noncomputable def lF (C:LC) (mode:List Nat) (depth skip:Nat) (s6 s7 s8:V):List V:=[.str C.x,.lref C.m,.str mode,.int depth,.int skip,.lref C.b,s6,s7,s8]
noncomputable def lS (C:LC) (ms fs:List Nat):Sto:=(C.σ.put C.m (.list (chV ms))).put C.b (.list (bu fs))
def Lp (C:LC) (n:Nat) (mode:List Nat) (depth skip:Nat) (ms fs:List Nat):Prop:=
 ms.length≤n→fs.length≤n→∀s6 s7 s8,fY 6 (fun _=>True) (fun m σ kn kb=>vcS C.Sp gvL du.forB m σ kn C.K kb kn fun _=>C.KE) (fun m σ=>vcS C.Sp gvL du.aft m σ (fun _ M1=>C.K .none M1) C.K (fun _ _=>False) (fun _ _=>False) (fun _=>C.KE))
  ((List.range' n (C.x.length - n)).map fun(k:Nat)=>V.int (k:Int)) (fr (lF C mode depth skip s6 s7 s8)) (lS C ms fs)
theorem xS (a b:List Nat):chV (a++b)=chV a++chV b:=p0
theorem xR (a:List Nat):(chV a).length=a.length:=f7 _
section
variable {C:LC} {KE:(Nat→V)→Ke} {n:Nat} {ms fs:List Nat} {mode:List Nat} {depth skip:Nat}
theorem Ef:lS C ms fs C.m=some (.list (chV ms)):=(aA _ _ C.hmb).trans (ai ..)
theorem Ik:lS C ms fs C.b=some (.list (bu fs)):=ai ..
theorem Mm:(lS C ms fs).put C.m (.list (chV ms'))=lS C ms' fs:=(gw C.hmb.symm).trans (congrArg (Sto.put · C.b _) (aM ..))
theorem HJ:(lS C ms fs).put C.b (.list (bu fs'))=lS C ms fs':=aM ..
theorem vk {kn kb kc:(Nat→V)→Sto→Prop} {KE:(Nat→V)→Ke} {r:S} {s6 s7 s8:V} (k:C.K (.tup [.lst (chV ms),.lref C.b]) (C.σ.put C.b (.list (bu fs)))):vcS C.Sp gvL (.seq (.ret (.frz (.tup (.cons (.var 1) (.cons (.var 5) .nil))))) r) (fr (lF C mode depth skip s6 s7 s8)) (lS C ms fs) kn C.K kb kc KE:=by
 refine bB (gf (aK kz rfl) (fun a o ha=>?_) (.tup (.cons (.lst Ef ((aA _ _ C.hmb).trans C.Nk) (fw _)) (.cons (.same _) .nil)))) k;by_cases z:a=C.b
 ·rw[z,ai] at ha;rw[z,lS,ai];exact ha
 ·rw[aA _ _ z] at ha;have:a≠C.m:=fun q=>by rw[q,C.Nk] at ha;exact noS ha
  rw[lS,aA _ _ z,aA _ _ this];exact ha
theorem xp (h:C.x.drop n=c::r)
  (k:ms.length≤n→fs.length≤n→n<aH→∀kn:(Nat→V)→Sto→Prop,(∀mode depth skip ms fs s6 s7 s8,Lp C (n+1) mode depth skip ms fs→ms.length≤n+1→fs.length≤n+1→kn (fr (lF C mode depth skip s6 s7 s8)) (lS C ms fs))→
   ∀kb:(Nat→V)→Sto→Prop,vcS C.Sp gvL du.forB.aft1 (fr (lF C mode depth skip (.int n) (.str [c]) (.str ((c::r).take 2)))) (lS C ms fs) kn C.K kb kn fun _=>C.KE):Lp C n mode depth skip ms fs:=by
 intro hm hf s6 s7 s8;refine cQ (af h) fun a1 a2 a3=>?_;have hx:=C.hx;simp only[show C.x.length - n=(C.x.length - (n+1))+1 by lia,w9,j3]
 first|rw[bx]|rw[bH]
 refine er (bh rfl rfl) ?_;have M:=gd (Sp:=C.Sp) (gv:=gvL) (m:=fr (lF C mode depth skip (.int n) s7 s8)) (σ:=lS C ms fs) (a:=.var 0) (lo:=.var 6) (hi:=.bin .add (.var 6) (.lit (.int 2))) (x:=C.x) (n:=n) (k:=n+2) kz kz (aB kz kz fun _ k=>k);simp only[h,j7] at M;refine aX (ds:=[.str [c],.str ((c::r).take 2)]) (L':=lF C mode depth skip (.int n) (.str [c]) (.str ((c::r).take 2))) (aK (ag (eO (n:=n) kz kz a1) (ag M au)) rfl) rfl ?_;exact k hm hf (by lia) _ (fun mode depth skip ms fs s6 s7 s8 hl h1 h2=>⟨trivial,hl h1 h2 s6 s7 s8⟩) _
theorem eX (he:Ev C.Sp gvL (fr (lF C mode depth skip s6 s7 s8)) (lS C ms fs) e (.str [c]) (lS C ms fs)) (hm:ms.length<aH):
  Ev C.Sp gvL (fr (lF C mode depth skip s6 s7 s8)) (lS C ms fs) (.append (.var 1) e) .none (lS C (ms++[c]) fs):=by
 have:=bO (Sp:=C.Sp) (gv:=gvL) (m:=fr (lF C mode depth skip s6 s7 s8)) (o:=.var 1) kz Ef he Ef (by rw[xR];exact v9 hm (by decide));rw[show chV ms++[V.str [c]]=chV (ms++[c]) from(xS ms [c]).symm,Mm] at this;exact this
theorem og (hf:fs.length<aH):Ev C.Sp gvL (fr (lF C mode depth skip (.int n) s7 s8)) (lS C ms fs) (.append (.var 5) (.var 6)) .none (lS C ms (fs++[n])):=by
 have:=bO (Sp:=C.Sp) (gv:=gvL) (m:=fr (lF C mode depth skip (.int n) s7 s8)) (o:=.var 5) (e:=.var 6) (d:=.int n) (σ:=lS C ms fs) kz Ik kz Ik (by rw[iz];exact v9 hf (by decide));rw[show bu fs++[V.int n]=bu (fs++[n]) from(iA fs [n]).symm,HJ] at this;exact this
theorem oO {s6 s7 s8:V} {f:Nat}:Ev C.Sp gvL (fr (lF C mode depth skip s6 s7 s8)) (lS C ms (fs++[f])) (.pop (.var 5)) (.int f) (lS C ms fs):=by
 have:=qU (Sp:=C.Sp) (gv:=gvL) (m:=fr (lF C mode depth skip s6 s7 s8)) (σ:=lS C ms (fs++[f])) (a:=.var 5) (p:=C.b) (ys:=bu fs) (v:=.int f) kz (by rw[Ik,iA];rfl);rw[HJ] at this;exact this
theorem jX (h:C.x.drop n=c::r) (k:Lp C (n+1) (match decide (depth=0)&&decide (mode=df) with|true=>[]|false=>mode) depth 0 (ms++[l]++[l]) fs):Lp C n mode depth 1 (ms++[l]) fs:=by
 refine xp h fun hm hf hn kn hk kb=>?_;refine aV (t:=true) (et_cmp kz kz rfl) (fun _=>?_) nofun;refine ak (d:=.int (0:Nat)) (L':=lF C mode depth 0 (.int n) (.str [c]) (.str ((c::r).take 2))) (aB kz kz fun _ k=>k) rfl rfl ?_;refine aE (eX (mR (ys:=chV ms) kz (by rw[Ef,xS];rfl)) (by lia)) ?_;have e:decide ((depth:Int)=0)=decide (depth=0):=by simp
 refine aV (t:=decide (depth=0)&&decide (mode=df)) (et_and (et_cmp kz kz (congrArg some e)) fun _=>et_cmp kz kz rfl) (fun t=>?_) fun t=>?_
 ·rw[t] at k;exact ak (L':=lF C [] depth 0 (.int n) (.str [c]) (.str ((c::r).take 2))) kz rfl rfl (hk _ _ _ _ _ _ _ _ k (by rw[b0,e8];lia) (by lia))
 ·rw[t] at k;exact hk _ _ _ _ _ _ _ _ k (by rw[b0,e8];lia) (by lia)
theorem uT (hm:mode≠[]) (hl:ms.length<aH) (k:kn (fr (lF C mode depth skip s6 s7 s8)) (lS C (ms++[99]) fs)):
  vcS C.Sp gvL du.forB.aft4 (fr (lF C mode depth skip s6 s7 s8)) (lS C ms fs) kn Kr kb kn KE:=by
 refine aD (t:= !decide (mode=[])) (et_cmp kz kz rfl) (fun _=>?_) fun t=>absurd (c8 (nf t)) hm;exact aE (eX kz hl) k
theorem lc (h:C.x.drop n=c::r)
  (k:ms.length≤n→fs.length≤n→n<aH→∀kn:(Nat→V)→Sto→Prop,(∀mode depth skip ms fs s6 s7 s8,Lp C (n+1) mode depth skip ms fs→ms.length≤n+1→fs.length≤n+1→kn (fr (lF C mode depth skip s6 s7 s8)) (lS C ms fs))→
   ∀kb:(Nat→V)→Sto→Prop,vcS C.Sp gvL du.forB.aft3 (fr (lF C (match decide (mode=eN)&&[13,10].contains c with|true=>[]|false=>mode) depth 0 (.int n) (.str [c]) (.str ((c::r).take 2)))) (lS C ms fs) kn C.K kb kn fun _=>C.KE):Lp C n mode depth 0 ms fs:=by
 refine xp h fun hm hf hn kn hk kb=>?_;refine aV (t:=false) (et_cmp kz kz rfl) nofun fun _=>?_;refine aV (t:=decide (mode=eN)&&[13,10].contains c) (et_and (et_cmp kz kz rfl) fun _=>et_cmp kz kz rfl) (fun t=>?_) fun t=>?_
 ·have:=k hm hf hn kn hk kb;rw[t] at this;exact ak kz rfl rfl this
 ·have:=k hm hf hn kn hk kb;rw[t] at this;exact this
theorem FU (h:C.x.drop n=c::r) (hc:c≠10∧c≠13) (k:Lp C (n+1) eN depth 0 (ms++[99]) fs):Lp C n eN depth 0 ms fs:=by
 refine lc h fun hm hf hn kn hk kb=>?_;have e:(decide (eN=eN)&&[13,10].contains c)=false:=by simp[hc.1,hc.2]
 refine er e ?_;refine aD (t:=false) (et_cmp kz kz rfl) nofun fun _=>?_;refine aD (t:=false) (et_and (t:=false) (u:=false) (et_cmp kz kz rfl) nofun) nofun fun _=>?_;refine aD (t:=false) (et_cmp kz kz rfl) nofun fun _=>?_;exact uT (by decide) (by lia) (hk _ _ _ _ _ _ _ _ k (by rw[b0,e8];lia) (by lia))
theorem vp:Et C.Sp gvL (fr [s0,s1,s2,s3,s4,s5,s6,s7,.str ((c::r).take 2)]) σ (.cmp .inn (.var 8) (.tup (.cons (.lit (.str [40,59])) (.cons (.lit (.str [59,41])) .nil)))) (decide ([40,59]=(c::r).take 2)||(decide ([59,41]=(c::r).take 2)||false)):=et_cmp kz (aK kz rfl) rfl
theorem JF (h:C.x.drop n=40::59::r) (k:Lp C (n+1) df (depth+1) 1 (ms++[99]) fs):Lp C n df depth 0 ms fs:=by
 refine lc h fun hm hf hn kn hk kb=>?_;refine aD (t:=false) (et_cmp kz kz rfl) nofun fun _=>?_;refine aD (t:=true) (et_and (t:=true) (u:=true) (et_cmp kz kz rfl) fun _=>vp) (fun _=>?_) nofun;refine aX (ds:=[.int ((depth+1:Nat):Int),.int (1:Nat)]) (L':=lF C df (depth+1) 1 (.int n) (.str [40]) (.str [40,59])) (aK (ag (aB (M5:=.int 1) kz (bD (t:=true) (et_cmp kz kz rfl) (fun _=>kz) nofun) fun _ k=>k) (ag kz au)) rfl) rfl ?_;refine aV (t:=false) (et_cmp kz kz (by show some (decide (((depth+1:Nat):Int)=0))=_;rw[c9 (by lia)])) nofun fun _=>?_;exact uT (by decide) (by lia) (hk _ _ _ _ _ _ _ _ k (by rw[b0,e8];lia) (by lia))
theorem JG {r:List Nat} {f:Nat} (h:C.x.drop n=59::41::r) (k:Lp C (n+1) df depth 1 (ms++[99]) (match decide (depth=0) with|true=>fs|false=>fs++[f])):Lp C n df (depth+1) 0 ms (fs++[f]):=by
 refine lc h fun hm hf hn kn hk kb=>?_;simp only[b0,e8] at hf;refine aD (t:=false) (et_cmp kz kz rfl) nofun fun _=>?_;refine aD (t:=true) (et_and (t:=true) (u:=true) (et_cmp kz kz rfl) fun _=>vp) (fun _=>?_) nofun;refine aX (ds:=[.int (depth:Int),.int (1:Nat)]) (L':=lF C df depth 1 (.int n) (.str [59]) (.str [59,41])) (aK (ag (aB (M9:=.int ((depth+1:Nat):Int)) (M5:=.int (-1)) kz (bD (t:=false) (et_cmp kz kz rfl) nofun fun _=>nI kz) fun _ k=>by
  rw[show(depth:Int)=((depth+1:Nat):Int)+ -1 by lia] at k;exact k) (ag kz au)) rfl) rfl ?_
 have e:decide ((depth:Int)=0)=decide (depth=0):=by simp
 refine aV (t:=decide (depth=0)) (et_cmp kz kz (congrArg some e)) (fun t=>?_) fun t=>?_
 ·rw[t] at k;exact aE oO (uT (by decide) (by lia) (hk _ _ _ _ _ _ _ _ k (by rw[b0,e8];lia) (by show fs.length≤_;lia)))
 ·rw[t] at k;exact uT (by decide) (by lia) (hk _ _ _ _ _ _ _ _ k (by rw[b0,e8];lia) (by rw[b0,e8];lia))
theorem JE (h:C.x.drop n=c::r) (h1:decide ((c::r).take 2=[40,59])=false) (h2:decide ((c::r).take 2=[59,41])=false) (k:Lp C (n+1) df depth 0 (ms++[99]) fs):Lp C n df depth 0 ms fs:=by
 refine lc h fun hm hf hn kn hk kb=>?_;refine aD (t:=false) (et_cmp kz kz rfl) nofun fun _=>?_;have e:(decide ([40,59]=(c::r).take 2)||(decide ([59,41]=(c::r).take 2)||false))=false:=by
  rw[c9 fun z=>g8 h1 z.symm,c9 fun z=>g8 h2 z.symm];rfl
 refine aD (t:=false) (et_and (t:=true) (u:=false) (et_cmp kz kz rfl) fun _=>e▸vp) nofun fun _=>?_;refine aD (t:=false) (et_cmp kz kz rfl) nofun fun _=>?_;exact uT (by decide) (by lia) (hk _ _ _ _ _ _ _ _ k (by rw[b0,e8];lia) (by lia))
theorem nE {c f:Nat} {r:List Nat} (h:C.x.drop n=c::r) (hb:ms.length≤n→C.K (.tup [.lst (chV (ms++[115])),.lref C.b]) (C.σ.put C.b (.list (bu (fs++[f]))))∨¬(c=10∨c=13))
  (k:¬(c=10∨c=13)→Lp C (n+1) (match decide (c=34) with|true=>[]|false=>sJ) depth (match decide (c=92) with|true=>1|false=>0) (ms++[115]) (match decide (c=34) with|true=>fs|false=>fs++[f])):Lp C n sJ depth 0 ms (fs++[f]):=by
 refine lc h fun hm hf hn kn hk kb=>?_;simp only[b0,e8] at hf;have l1:(ms++[115]).length≤n+1:=by rw[b0,e8];lia
 refine aD (t:=false) (et_cmp kz kz rfl) nofun fun _=>?_;refine aD (t:=false) (et_and (t:=false) (u:=false) (et_cmp kz kz rfl) nofun) nofun fun _=>?_;refine aV (t:=true) (et_cmp kz kz rfl) (fun _=>?_) nofun;refine aE (eX kz (by lia)) ?_;refine aD (t:=decide (c=92)) (et_cmp kz kz (congrArg some fg)) (fun t=>?_) fun t=>?_
 ·have t:=c8 t;subst t;exact ak kz rfl rfl (hk _ _ _ _ _ _ _ _ (k (by decide)) l1 (by show(fs++[f]).length≤_;rw[b0,e8];lia))
 rw[t] at k;refine aD (t:=decide (c=34)) (et_cmp kz kz (congrArg some fg)) (fun t=>?_) fun t=>?_
 ·have t':=c8 t;subst t';exact ak kz rfl rfl (aE oO (hk _ _ _ _ _ _ _ _ (k (by decide)) l1 (by show fs.length≤_;lia)))
 rw[t] at k;refine aV (t:=[13,10].contains c) (et_cmp kz kz rfl) (fun t=>?_) fun t=>?_
 ·have hc:c=10∨c=13:=by simpa [or_comm] using t
  exact vk ((hb hm).resolve_right fun z=>z hc)
 ·have hc:¬(c=10∨c=13):=by simpa [or_comm] using t
  exact hk _ _ _ _ _ _ _ _ (k hc) l1 (by rw[b0,e8];lia)
noncomputable def dc (c:Nat):Nat:=bif [40,41].contains c then c else bif gp.contains c then 44 else bif dBl.contains c then 32 else bif decide ((33:Int)≤c)&&decide ((c:Int)<127) then 119 else 63
theorem iv (h:C.x.drop n=c::r) (hm0:mode=[]∨mode=eN∧(c=10∨c=13)) (k1:(c::r).take 2=[59,59]→Lp C (n+1) eN depth 0 (ms++[99]) fs)
  (k2:(c::r).take 2≠[59,59]→(c::r).take 2=[40,59]→Lp C (n+1) df 1 1 (ms++[99]) (fs++[n])) (k3:c=34→Lp C (n+1) sJ depth 0 (ms++[113]) (fs++[n]))
  (k4:(c::r).take 2≠[59,59]→(c::r).take 2≠[40,59]→c≠34→dc c=63→C.K (.tup [.lst (chV (ms++[63])),.lref C.b]) (C.σ.put C.b (.list (bu (fs++[n])))))
  (k5:(c::r).take 2≠[59,59]→(c::r).take 2≠[40,59]→c≠34→dc c≠63→Lp C (n+1) [] depth 0 (ms++[dc c]) fs):Lp C n mode depth 0 ms fs:=by
 refine lc h fun hm hf hn kn hk kb=>?_;have e:(match decide (mode=eN)&&[13,10].contains c with|true=>([]:List Nat)|false=>mode)=[]:=by
  rcases hm0 with rfl|⟨rfl,rfl|rfl⟩<;>rfl
 refine er e ?_;have hm':=j0 hm hn;have hf':=j0 hf hn;have l1 (z:Nat):(ms++[z]).length≤n+1:=by rw[b0];exact i9 hm
 have l2:(fs++[n]).length≤n+1:=by rw[b0];exact i9 hf
 refine aD (t:=true) kz (fun _=>?_) nofun;refine aD (t:=decide ((c::r).take 2=[59,59])) kz (fun t=>?_) fun t1=>?_
 ·exact ak kz (L':=lF C eN depth 0 (.int n) (.str [c]) (.str ((c::r).take 2))) rfl rfl (uT (by decide) hm' (hk _ _ _ _ _ _ _ _ (k1 (c8 t)) (l1 _) (j1 hf)))
 have t1:=g8 t1;refine aD (t:=decide ((c::r).take 2=[40,59])) kz (fun t=>?_) fun t2=>?_
 ·exact aX (ds:=[.str df,.int (1:Nat),.int (1:Nat)]) (L':=lF C df 1 1 (.int n) (.str [c]) (.str ((c::r).take 2))) (aK kz rfl) rfl (aE (og hf') (uT (by decide) hm' (hk _ _ _ _ _ _ _ _ (k2 t1 (c8 t)) (l1 _) l2)))
 refine aV (t:=decide (c=34)) (et_cmp kz kz (congrArg some fg)) (fun t=>?_) fun t3=>?_
 ·exact ak kz (L':=lF C sJ depth 0 (.int n) (.str [c]) (.str ((c::r).take 2))) rfl rfl (aE (og hf') (aE (eX kz hm') (hk _ _ _ _ _ _ _ _ (k3 (c8 t)) (l1 _) l2)))
 have k4:=k4 t1 (g8 t2) (g8 t3);refine aD (t:=false) kz nofun fun _=>?_;have fin {z:Nat} {s6 s7 s8:V} (e:dc c=z) (n63:z≠63):=hk [] depth 0 (ms++[z]) fs s6 s7 s8 (e▸(k5 t1 (g8 t2) (g8 t3)) (e▸n63)) (l1 z) (j1 hf);unfold dc at fin k4;refine aD (t:=[40,41].contains c) kz (fun t=>?_) fun t=>?_
 ·rw[t] at fin;have n63:c≠63:=fun z=>by rw[z] at t;exact noT t
  exact aE (eX kz hm') (fin rfl n63)
 rw[t] at fin k4;refine aD (t:=gp.contains c) kz (fun t=>?_) fun t=>?_
 ·rw[t] at fin;exact aE (eX kz hm') (fin rfl (by decide))
 rw[t] at fin k4;refine aD (t:=dBl.contains c) kz (fun t=>?_) fun t=>?_
 ·rw[t] at fin;exact aE (eX kz hm') (fin rfl (by decide))
 rw[t] at fin k4;refine aD (t:=decide ((33:Int)≤c)&&decide ((c:Int)<127)) (et_cmp2 kz kz kz rfl rfl) (fun t=>?_) fun t=>?_
 ·rw[t] at fin;exact aE (eX kz hm') (fin rfl (by decide))
 rw[t] at k4;exact aE (eX kz hm') (aE (og hf') (vk (k4 rfl)))
end
noncomputable def rep (k c:Nat):List Nat:=List.replicate k c
noncomputable def Pc.marks:Pc→List Nat|.w _=>[119]|.s i _=>113::rep (i.length+1) 115
noncomputable def aw (ps:List Pc):List Nat:=ps.flatMap Pc.marks
noncomputable def Gp.marks:Gp→List Nat|.sp _=>[32]|.com cs=>rep cs.length 99|.br c=>[c]|.lo _=>[44]|.run ps=>aw ps
noncomputable def Fi.marks:Fi→List Nat|.ok=>[]|.block cs=>rep (cs.length+2) 99|.bad _ _=>[63]|.str ps _ inner t _=>aw ps++113::(rep inner.length 115++match t with|[]=>[]|_=>[115])
noncomputable def bq (gs:List Gp) (f:Fi):List Nat:=gs.flatMap Gp.marks++f.marks
noncomputable def Fi.fault (n:Nat):Fi→List Nat|.ok=>[]|.block _=>[n]|.bad _ _=>[n]|.str ps _ _ _ _=>[n+(ae ps).length]
noncomputable def Ai (gs:List Gp):Nat:=(gs.flatMap Gp.txt).length
noncomputable def bA (n:Nat) (gs:List Gp) (f:Fi):List Nat:=f.fault (n+Ai gs)
inductive spMarks (ds:List V) (σ:Sto) (K:Kx) (KE:Ke):Prop
 |mk (x:_) (gs:_) (f:_) (h1:ds=[.str x]) (h2:x.length≤aH) (h3:Tx x gs f) (h4:∀b,σ b=none→K (.tup [.lst (chV (bq gs f)),.lref b]) (σ.put b (.list (bu (bA 0 gs f))))):spMarks ds σ K KE
theorem yH:∀c<127,33≤c→([40,41].contains c||(gp.contains c||(decide (c=34)||dId.contains c)))=true:=by decide+kernel
theorem Gg:∀c∈dId,dc c=119∧c≠59∧c≠40∧c≠34:=by decide+kernel
theorem Hc:∀c∈dBl,dc c=32∧c≠59∧c≠40∧c≠34:=by decide
theorem FV:∀c∈gp,dc c=44∧c≠40∧c≠34:=by decide
theorem DU (h:rC c):dc c=63:=by
 refine xY h fun h1 h2 h3 h4 h5=>?_;unfold dc;simp only[h1,h2,h3];cases q:decide ((33:Int)≤c)&&decide ((c:Int)<127) with
 |false=>rfl
 |true=>
  rw[I3,o5,o5] at q;have:=yH c (by lia) (by lia);simp only[h2,h3,h5,c9 h4] at this;cases this
section
variable {C:LC} {n:Nat} {ms fs:List Nat} {mode:List Nat} {depth skip d:Nat}
theorem qP (h:C.x.drop n=[]) (k:C.K (.tup [.lst (chV ms),.lref C.b]) (C.σ.put C.b (.list (bu fs)))):Lp C n mode depth skip ms fs:=by
 intro hm hf s6 s7 s8;simp only[I5 (o9.mp h),show(List.range' n 0).map (fun(k:Nat)=>V.int (k:Int))=[] from rfl]
 first|rw[bx]|rw[bH]
 exact vk k
theorem dN (k c:Nat):rep (k+1) c=c::rep k c:=rfl
theorem bR (ms l:List Nat) (c:Nat):ms++c::l=ms++[c]++l:=by rw[e9];rfl
def bst (C:LC) (g n:Nat) (ms:List Nat) (f:Nat):Prop:=match g with|0=>Lp C n [] 0 0 ms []|g+1=>Lp C n df (g+1) 0 ms [f]
theorem Bq (hb:Bk g cs e):(e=0∨l=[])→∀(n:Nat) (ms:List Nat),C.x.drop n=cs++l→
  (e=0→Lp C (n+cs.length) [] 0 0 (ms++rep cs.length 99) [])→(e≠0→C.K (.tup [.lst (chV (ms++rep cs.length 99)),.lref C.b]) (C.σ.put C.b (.list (bu [f]))))→bst C g n ms f:=by
 induction hb with
 |nil g=>
  intro he n ms h k1 k2;rw[show rep ([]:List Nat).length 99=[] from rfl,d7] at k1 k2;cases g with
  |zero=>exact k1 rfl
  |succ g=>
   rw[he.resolve_left (by lia)] at h;exact qP h (k2 (by lia))
 | @opn g e cs hb ih=>
  intro he n ms h k1 k2;have h1:=(af h).2.2;have h2:=(af h1).2.2;have e1:ms++rep (40::59::cs).length 99=ms++[99]++[99]++rep cs.length 99:=by
   rw[c6,c6,dN,dN,bR,bR]
  rw[e1] at k1 k2;exact JF h (jX h1 (ih he (n+1+1) (ms++[99]++[99]) h2 (fun z=>by rw[show n+1+1+cs.length=n+(40::59::cs).length by simp;lia];exact k1 z) k2))
 | @cls g e cs hb ih=>
  intro he n ms h k1 k2;have h1:=(af h).2.2;have h2:=(af h1).2.2;have e1:ms++rep (59::41::cs).length 99=ms++[99]++[99]++rep cs.length 99:=by
   rw[c6,c6,dN,dN,bR,bR]
  rw[e1] at k1 k2;have I:=ih he (n+1+1) (ms++[99]++[99]) h2 (fun z=>by rw[show n+1+1+cs.length=n+(59::41::cs).length by simp;lia];exact k1 z) k2;refine JG (fs:=[]) h (jX h1 ?_);cases g with
  |zero=>exact I
  |succ g=>exact I
 | @oth g e c cs hc hb ih=>
  intro he n ms h k1 k2;have e1:ms++rep (c::cs).length 99=ms++[99]++rep cs.length 99:=by
   rw[c6,dN,bR]
  rw[e1] at k1 k2;have hh:(cs++l).head?=cs.head?:=by
   cases cs with
   |cons _ _=>rfl
   |nil=>
    have:e≠0:=fun z=>by subst z;exact hb.ne rfl
    rw[he.resolve_left this];rfl
  exact JE h (qF (hh▸hc.1)) (qF (hh▸hc.2)) (ih he (n+1) (ms++[99]) ((af h).2.2) (fun z=>by rw[show n+1+cs.length=n+(c::cs).length by simp;lia];exact k1 z) k2)
theorem Ht (hs:Sc i):∀(n:Nat) (ms:List Nat),C.x.drop n=i++l→Lp C (n+i.length) sJ d 0 (ms++rep i.length 115) [f]→Lp C n sJ d 0 ms [f]:=by
 induction hs with
 |nil=>
  intro n ms h k;simp only[show rep ([]:List Nat).length 115=[] from rfl,d7] at k;exact k
 | @chr c i h1 h2 h3 hs ih=>
  intro n ms h k;have a:=(af h).2.2;rw[c6,dN,bR,show n+(i.length+1)=n+1+i.length by lia] at k;have I:=ih (n+1) (ms++[115]) a k;refine nE (fs:=[]) h (fun _=>.inr (fun z=>z.elim h3.1 h3.2)) fun _=>?_;refine er (c9 h1) (er (c9 h2) ?_);exact I
 | @esc c i hs ih=>
  intro n ms h k;have a:=(af h).2.2;have a':=(af a).2.2;rw[c6,c6,dN,dN,bR,bR,show n+(i.length+1+1)=n+1+1+i.length by lia] at k;refine nE (fs:=[]) h (fun _=>.inr (by decide)) fun _=>?_;show Lp C (n+1) sJ d 1 (ms++[115]) [f];refine jX a ?_;generalize decide (d=0)=t;cases t<;>exact(ih (n+1+1) (ms++[115]++[115]) a' k)
theorem tk2 {c a b:Nat} {l:List Nat} (h:c≠a):(c::l).take 2≠[a,b]:=g8 (eT h)
theorem Le {c a b:Nat} {l:List Nat} (h:¬(c=a∧l.head?=some b)):(c::l).take 2≠[a,b]:=g8 (nQ h)
theorem vj (h:C.x.drop n=c::r) (h0:mode=[]∨mode=eN∧(c=10∨c=13)) (h1:(c::r).take 2≠[59,59]) (h2:(c::r).take 2≠[40,59]) (h3:c≠34) (h4:dc c≠63) (k:Lp C (n+1) [] d 0 (ms++[dc c]) fs):Lp C n mode d 0 ms fs:=
 iv h h0 (fun z=>(h1 z).elim) (fun _ z=>(h2 z).elim) (fun z=>(h3 z).elim) (fun _ _ _ z=>(h4 z).elim) fun _ _ _ _=>k
theorem AO (h:C.x.drop n=40::59::r) (k:Lp C (n+1) df 1 1 (ms++[99]) (fs++[n])):Lp C n [] d 0 ms fs:=
 iv h (.inl rfl) (fun z=>absurd z (tk2 (by decide))) (fun _ _=>k) (fun z=>absurd z (by decide)) (fun _ z=>absurd rfl z) fun _ z=>absurd rfl z
theorem ua (hc:c≠59∧c≠40∧c≠34) (hm:dc c≠63) (h:C.x.drop n=c::r) (h0:mode=[]∨mode=eN∧(c=10∨c=13)) (k:Lp C (n+1) [] d 0 (ms++[dc c]) fs):Lp C n mode d 0 ms fs:=by
 exact vj h h0 (tk2 hc.1) (tk2 hc.2.1) hc.2.2 hm k
theorem xQ (h:C.x.drop n=34::r) (k:Lp C (n+1) sJ d 0 (ms++[113]) (fs++[n])):Lp C n [] d 0 ms fs:=by
 exact iv h (.inl rfl) (fun z=>absurd z (tk2 (by decide))) (fun _ z=>absurd z (tk2 (by decide))) (fun _=>k) (fun _ _ z=>absurd rfl z) fun _ _ z=>absurd rfl z
theorem AD:∀(ps:List Pc) (n:Nat) (ms:List Nat),(∀p∈ps,p.Ok)→C.x.drop n=ae ps++l→Lp C (n+(ae ps).length) [] d 0 (ms++aw ps) []→Lp C n [] d 0 ms []:=by
 intro zz
 induction zz with
 |nil=>
  intro n ms _ h k;simp only[show aw []=[] from rfl,d7] at k;exact k
 |cons zp ps ih=>
  induction zp with
  |w c=>
   intro n ms hp h k;have a:=(af (show C.x.drop n=c::(ae ps++l) from h)).2.2;have q7:=Gg c (hp _ (.head _));have e:ms++aw (.w c::ps)=ms++[119]++aw ps:=bR ms (aw ps) 119;simp only[e,show n+(ae (.w c::ps)).length=n+1+(ae ps).length by show n+(c::ae ps).length=_;rw[c6];lia] at k;refine ua q7.2 (by rw[q7.1];decide) h (.inl rfl) ?_;refine er q7.1 ?_;exact ih (n+1) (ms++[119]) (fun p hq=>hp p (.tail _ hq)) a k
  |s i r=>
   intro n ms hp h k;have h':C.x.drop n=34::(i++(34::(ae ps++l))):=by
    refine er h ?_;show(34::(i++[34])++ae ps)++l=_;simp
   have a:=(af h').2.2;have e:ms++aw (.s i r::ps)=ms++[113]++rep i.length 115++[115]++aw ps:=by
    show ms++(113::List.replicate (i.length+1) 115++aw ps)=_;simp only[List.replicate_succ',rep];simp
   have el:n+(ae (.s i r::ps)).length=n+1+i.length+1+(ae ps).length:=by
    show n+(34::(i++[34])++ae ps).length=_;simp;lia
   simp only[e,el] at k;exact xQ (fs:=[]) h' (Ht (hp _ (.head _)).2 (n+1) _ a (nE (fs:=[]) (aT a) (fun _=>.inr (by decide)) fun _=>(ih (n+1+i.length+1) _ (fun p hq=>hp p (.tail _ hq)) ((af (aT a)).2.2) k)))
theorem FW:∀(cs:List Nat) (n:Nat) (ms:List Nat),(∀c∈cs,c≠10∧c≠13)→C.x.drop n=cs++l→Lp C (n+cs.length) eN d 0 (ms++rep cs.length 99) fs→Lp C n eN d 0 ms fs:=by
 intro zz
 induction zz with
 |nil=>
  intro n ms _ h k;simp only[show rep ([]:List Nat).length 99=[] from rfl,d7] at k;exact k
 |cons c cs ih=>
  intro n ms hc h k;rw[c6,dN,bR,show n+(cs.length+1)=n+1+cs.length by lia] at k;exact FU h (hc c (.head _)) (ih (n+1) (ms++[99]) (fun c h=>hc c (.tail _ h)) (af h).2.2 k)
theorem oH (g:Gp) (gs:List Gp):Ai (g::gs)=g.txt.length+Ai gs:=b0
theorem xn (hp:∀p∈ps,p.Ok) (hl:ps≠[]∨¬jB l):¬jB (ae ps++l):=by
 induction ps with
 |nil=>exact hl.resolve_left fun z=>z rfl
 |cons p ps _=>induction p with
  |w c=>exact fun z=>absurd (show c∈dId from hp _ (.head _)) ((show c=10∨c=13 from z).elim (fun e=>by rw[e];decide) fun e=>by rw[e];decide)
  |s i r=>exact fun z=>absurd (show 34=10∨34=13 from z) (by decide)
theorem CE (ht:Tx l gs f):∀(n:Nat) (ms mode:List Nat) (d:Nat),C.x.drop n=l→(mode=[]∨mode=eN∧jB l)→
  C.K (.tup [.lst (chV (ms++bq gs f)),.lref C.b]) (C.σ.put C.b (.list (bu (bA n gs f))))→Lp C n mode d 0 ms []:=by
 have G (n:Nat) (ms:List Nat) (g:Gp) (gs:List Gp) (f:Fi) (p:List Nat) (k:Nat) (e1:g.marks=p) (e2:g.txt.length=k) (h:C.K (.tup [.lst (chV (ms++bq (g::gs) f)),.lref C.b]) (C.σ.put C.b (.list (bu (bA n (g::gs) f))))):C.K (.tup [.lst (chV (ms++p++bq gs f)),.lref C.b]) (C.σ.put C.b (.list (bu (bA (n+k) gs f)))):=by
  have e3:ms++bq (g::gs) f=ms++p++bq gs f:=by
   simp only[←e1,e9];show ms++((g.marks++gs.flatMap Gp.marks)++f.marks)=_;rw[e9];rfl
  have e4:bA n (g::gs) f=bA (n+k) gs f:=by
   unfold bA;simp only[oH,e2,g5]
  rw[e3,e4] at h;exact h
 induction ht with
 |nil=>
  intro n ms mode d h hm k;rw[show bq [] .ok=[] from rfl,d7] at k;exact qP h k
 | @sp c l gs f hc ht ih=>
  intro n ms mode d h hm k;have q7:=Hc c hc;refine ua q7.2 (by rw[q7.1];decide) h (hm.imp id fun z=>⟨z.1,z.2⟩) ?_;refine er q7.1 ?_;exact ih (n+1) _ [] d (af h).2.2 (.inl rfl) (G n ms (.sp c) gs f [32] 1 rfl rfl k)
 | @line cs l gs f hc hl ht ih=>
  intro n ms mode d h hm k;have hm:=hm.elim id fun z=>by rcases z.2 with z|z<;>cases z
  subst hm;refine iv h (.inl rfl) (fun _=>?_) (fun z=>absurd rfl z) (fun z=>absurd z (by decide)) (fun z=>absurd rfl z) fun z=>absurd rfl z;refine FW (59::cs) (n+1) (ms++[99]) (fun c hc'=>(d0.mp hc').elim (fun z=>by subst z;decide) (hc c)) ((af h).2.2) ?_;rw[←bR,show n+1+(59::cs).length=n+(59::59::cs).length by simp;lia];exact(ih _ _ eN d (aT (a:=59::59::cs) h) (.inr ⟨rfl,hl⟩) (G n ms (.com (59::59::cs)) gs f _ _ rfl rfl k))
 | @block cs l gs f hb ht ih=>
  intro n ms mode d h hm k;have hm:=hm.elim id fun z=>by rcases z.2 with z|z<;>cases z
  subst hm;have h1:=(af h).2.2;refine AO h ?_;refine jX h1 ?_;refine Bq (g:=1) hb (.inl rfl) (n+1+1) _ ((af h1).2.2) (fun _=>?_) fun z=>absurd rfl z;rw[←bR,←bR,show n+1+1+cs.length=n+(40::59::cs).length by simp;lia];exact(ih _ _ [] 0 (aT (a:=40::59::cs) h) (.inl rfl) (G n ms (.com (40::59::cs)) gs f _ _ rfl rfl k))
 | @blockO cs e hb he=>
  intro n ms mode d h hm k;have hm:=hm.elim id fun z=>by rcases z.2 with z|z<;>cases z
  subst hm;have h1:=(af h).2.2;refine AO h ?_;refine jX h1 ?_;refine Bq (g:=1) (l:=[]) hb (.inr rfl) (n+1+1) _ (by rw[d7];exact((af h1).2.2)) (fun z=>(he z).elim) fun _=>?_;rw[←bR,←bR];exact k
 | @br c l gs f hc hc' ht ih=>
  intro n ms mode d h hm k;have hm:=hm.elim id fun z=>by rcases z.2 with z|z<;>lia
  subst hm;have e:dc c=c:=by rcases hc with rfl|rfl<;>rfl
  refine vj h (.inl rfl) (tk2 (by lia)) (Le hc') (by lia) (by rw[e];lia) ?_;refine er e ?_;exact ih (n+1) _ [] d (af h).2.2 (.inl rfl) (G n ms (.br c) gs f [c] 1 rfl rfl k)
 | @lo c l gs f hc hc' ht ih=>
  intro n ms mode d h hm k;have q7:=FV c hc;have hm:=hm.elim id fun z=>by rcases z.2 with z|z<;>(rw[z] at hc;exact absurd hc (by decide))
  subst hm;refine vj h (.inl rfl) (Le hc') (tk2 q7.2.1) q7.2.2 (by rw[q7.1];decide) ?_;refine er q7.1 ?_;exact ih (n+1) _ [] d (af h).2.2 (.inl rfl) (G n ms (.lo c) gs f [44] 1 rfl rfl k)
 | @run ps l gs f hne hp hl ht ih=>
  intro n ms mode d h hm k;have hm:mode=[]:=hm.elim id fun z=>absurd z.2 (xn hp (.inl hne));subst hm;exact AD ps n ms hp h (ih _ _ [] d (aT h) (.inl rfl) (G n ms (.run ps) gs f _ _ rfl rfl k))
 | @runO ps tl inner t r hp ho hsc=>
  intro n ms mode d h hm k;refine Ir ho fun z0_ hoc het hnc=>?_;subst z0_;have hm:mode=[]:=hm.elim id fun z=>absurd z.2 (xn hp (.inr fun z=>absurd (show 34=10∨34=13 from z) (by decide)));subst hm;have h1:=aT h;have h3:=aT ((af h1).2.2);have e1:ms++bq [] (.str ps (34::(inner++t)) inner t r)=ms++aw ps++[113]++rep inner.length 115++(match t with|[]=>[]|_=>[115]):=by
   show ms++(aw ps++113::(rep inner.length 115++_))=_;simp
  rw[e1] at k;have k':C.K (.tup [.lst (chV (ms++aw ps++[113]++rep inner.length 115++(match t with|[]=>[]|_=>[115]))),.lref C.b]) (C.σ.put C.b (.list (bu [n+(ae ps).length]))):=k;refine AD ps n ms hp h (xQ (fs:=[]) h1 (Ht hsc _ _ ((af h1).2.2) ?_));rcases het with ⟨l,rfl⟩|rfl|rfl|⟨c,l,rfl,hc⟩
  ·exact absurd ⟨l,rfl⟩ hnc
  ·rw[d7] at k';exact qP h3 k'
  ·refine nE (fs:=[]) h3 (fun _=>.inr (by decide)) fun _=>?_;exact qP (af h3).2.2 k'
  ·exact nE (fs:=[]) h3 (fun _=>.inl k') fun z=>absurd hc z
 | @bad c l hc=>
  intro n ms mode d h hm k;have q:=DU hc;refine xY hc fun h1 h2 h3 h4 h5=>?_;have hm:mode=[]:=hm.elim id fun z=>by
   rcases (show c=10∨c=13 from z.2) with rfl|rfl<;>cases h1
  subst hm;exact iv h (.inl rfl) (fun z=>(tk2 (fun z=>by rw[z] at h3;cases h3) z).elim) (fun _ z=>(tk2 (fun z=>by rw[z] at h2;cases h2) z).elim) (fun z=>(h4 z).elim) (fun _ _ _ _=>k) fun _ _ _ z=>(z q).elim
end
section
variable {K:Kx} {KE:(Nat→V)→Ke}
theorem FA {r:S} {L':Nat→Nat→List V} {is:List Nat} (hL:∀p q,gH is [.lref p,.str [],.int 0,.int 0,.lref q] L=some (L' p q))
  (k:∀p q,σ p=none→(σ.put p (.list [])) q=none→vcS Sp gvL r (fr (L' p q)) ((σ.put p (.list [])).put q (.list [])) Kn Kr Kb Kc KE):
  vcS Sp gvL (.seq (.assignT is (.tup (.cons (.list true .nil) (.cons (.lit (.str [])) (.cons (.lit (.int 0)) (.cons (.lit (.int 0)) (.cons (.list true .nil) .nil))))))) r) (fr L) σ Kn Kr Kb Kc KE:=by
 refine⟨g6 _,fun p hp=>⟨g6 _,fun q hq=>⟨show 5≤100 by decide,?_⟩⟩⟩;show cS (bi is [.lref p,.str [],.int 0,.int 0,.lref q] (fr L)) fun m'=>vcS Sp gvL r m' ((σ.put p (.list [])).put q (.list [])) Kn Kr Kb Kc KE;refine dG (hL p q) ?_;exact k p q hp hq
theorem Ez {ds:List V} {K:Kx} {KE:Ke} (h:spMarks ds σ K KE):Wlk Sp du ds σ K KE:=by
 obtain⟨x,gs,f,rfl,hx,ht,k⟩:=h;refine bk 8 ?_;refine FA (L':=fun p q=>[.str x,.lref p,.str [],.int (0:Nat),.int (0:Nat),.lref q,.unb,.unb,.unb]) (fun _ _=>rfl) fun p q hp hq=>?_;have npq:q≠p:=fun z=>by rw[z,ai] at hq;cases hq
 rw[aA _ _ npq] at hq;refine gZ (dE kz fun _ k=>k) kz (jc hx) ?_;have:=CE (C:=⟨Sp,σ,p,q,x,K,KE,npq.symm,hp,hx⟩) ht 0 [] [] 0 rfl (.inl rfl) (k q hq) (f3 _) (f3 _) .unb .unb .unb;rw[←K2] at this;exact this
end
section
set_option backward.match.sparseCases false
theorem xl:(pq r).ok=true:=by cases r<;>rfl
theorem Cx:fZ σ .isN (pq r) .none=some r.isNone:=by cases r<;>rfl
theorem qy (k:Nat):∀fs:List Nat,eP (.int k) (bu fs)=some (fs.contains k)
 |[]=>rfl
 |f::fs=>by
  have e:eqV (.int f) (.int k)=some (decide ((f:Int)=k)):=rfl;show(match eqV (.int f) (.int k),eP (.int k) (bu fs) with|some a,some b=>some (a||b)|_,_=>none)=_;simp only[e,qy k fs,x5];have:decide ((f:Int)=k)=(k==f):=by
   by_cases h:f=k
   ·subst h;simp
   ·exact er (c9 (by lia)) (er (j6.mpr (v8 h)) rfl)
  exact er this rfl
theorem ot (c:Nat):∀ms:List Nat,eP (.str [c]) (chV ms)=some (ms.contains c)
 |[]=>rfl
 |f::ms=>by
  have e:eqV (.str [f]) (.str [c])=some (decide ([f]=[c])):=rfl;show(match eqV (.str [f]) (.str [c]),eP (.str [c]) (chV ms) with|some a,some b=>some (a||b)|_,_=>none)=_;simp only[e,ot c ms,x5,fg];have:decide (f=c)=(c==f):=by
   by_cases h:f=c
   ·subst h;simp
   ·exact er (c9 h) (er (j6.mpr (v8 h)) rfl)
  exact er this rfl
noncomputable def rdF (x ms:List Nat) (b p:Nat) (at_:Nat) (en wd so va be cl ro co:V):List V:=[.str x,.lst (chV ms),.lref b,.lst (bu (ma x)),.lref p,.int at_,en,wd,so,va,be,cl,ro,co]
noncomputable def rdS (σ:Sto) (b p:Nat) (fs:List Nat) (due:List V):Sto:=(σ.put b (.list (bu fs))).put p (.list due)
noncomputable def jx (x s w:List Nat) (v:V) (n:Nat):V:=.tup [.str s,.str w,v,.int (aY x n),.int (bI x n)]
def Rd (Sp:Nat→aP) (σ:Sto) (b p:Nat) (x ms:List Nat) (K:Kx) (KE:(Nat→V)→Ke) (Kn:(Nat→V)→Sto→Prop) (n:Nat) (fs:List Nat) (due:List V):Prop:=
 due.length≤n→fs.length≤n+1→∃f,∀en wd so va be cl ro co,Wh Sp bK.whC bK.whB K KE Kn f (fr (rdF x ms b p n en wd so va be cl ro co)) (rdS σ b p fs due)
section
variable {kn kb:(Nat→V)→Sto→Prop} {K:Kx} {KE:(Nat→V)→Ke} {KE':Ke} {n b p:Nat} {x:List Nat} {ms fs:List Nat} {due:List V} {en wd so va be cl ro co:V}
theorem fj (he:Ev Sp gvL (fr (s0:: .lst (chV ms)::L)) σ e (.int n) σ) (h:ms[n]?=some c):Ev Sp gvL (fr (s0:: .lst (chV ms)::L)) σ (.sub (.var 1) e) (.str [c]) σ:=
 dZ kz he fun _ k=>mJ (g9 _) (by rw[r9];unfold chV;rw[v7,h];rfl) k
theorem kg:Ev Sp gvL (fr (s0:: .lst (chV ms)::L)) σ (.blt 0 (.var 1)) (.int ms.length) σ:=by
 refine dE (d:=.lst (chV ms)) kz fun K k=>?_;show K (.int (chV ms).length) σ;rw[xR];exact k
theorem qV {s0:V} {lo hi:X} {n k:Nat} (hl:Ev Sp gvL (fr (s0:: .lst (chV ms)::L)) σ lo (.int n) σ) (hh:Ev Sp gvL (fr (s0:: .lst (chV ms)::L)) σ hi (.int k) σ):Ev Sp gvL (fr (s0:: .lst (chV ms)::L)) σ (.slice (.var 1) lo hi) (.lst (chV ((ms.drop n).take (k - n)))) σ:=by
 refine eG (d:=.lst (chV ms)) kz hl hh fun K q=>?_;show K (.lst (cut (chV ms) (some (n:Int)) (some (k:Int)))) σ;rw[qZ];unfold chV at*;rw[List.map_take,List.map_drop] at q;exact q
theorem AS:fZ σ .inn (.str [c]) (.lst (chV l))=some (l.contains c):=ot c l
theorem AL:fZ σ .nin (.str [c]) (.lst (chV l))=some (!l.contains c):=congrArg (Option.map not) (ot c l)
theorem rt {k a:Nat} {l:List Nat} (h:σ a=some (.list (bu l))):fZ σ .nin (.int k) (.lref a)=some (!l.contains k):=by
 show(kS σ (.lref a) fun xs=>eP (.int k) xs).map not=_;rw[nC (eW h),qy];rfl
theorem rq (hpb:p≠b) (h32:Sp 32=spPlace) (hx:x.length≤aH) (hv:v.ok=true) (hc:ms[n]?=some c) (hn:n≤x.length) (hd:due.length≤n) (hnx:n<aH)
  (k:∀ro co,kn (fr (rdF x ms b p N (.int N) (.str w) (.str s) v be cl ro co)) (rdS σ b p fs (match [32,99,63].contains c with|true=>due|false=>due++[jx x s w v n]))):
  vcS Sp gvL bK.whB.aft4 (fr (rdF x ms b p n (.int N) (.str w) (.str s) v be cl ro co)) (rdS σ b p fs due) kn Kr kb kn KE:=by
 refine aV (t:= ![32,99,63].contains c) (et_cmp (fj (n:=n) kz hc) kz rfl) (fun t=>?_) fun t=>?_
 ·rw[nt t] at k;refine aX (ds:=[.int (aY x n),.int (bI x n)]) (L':=rdF x ms b p n (.int N) (.str w) (.str s) v be cl (.int (aY x n)) (.int (bI x n))) (bt (ag kz (ag kz au)) fun K KE k=>h32▸⟨x,n,rfl,hx,hn,k⟩) rfl ?_;refine aE (bO (Sp:=Sp) (gv:=gvL) (m:=fr (rdF x ms b p n (.int N) (.str w) (.str s) v be cl (.int (aY x n)) (.int (bI x n)))) (o:=.var 4) (e:=.tup (.cons (.var 8) (.cons (.var 7) (.cons (.var 9) (.cons (.var 12) (.cons (.var 13) .nil)))))) (d:=jx x s w v n) (σ:=rdS σ b p fs due) kz (ai ..) (aK (ag kz (ag kz (ag (eL rfl hv) (ag kz (ag kz au))))) rfl) (ai ..) (j0 hd (v9 hnx (by decide)))) ?_;rw[rdS,aM];exact ak (L':=rdF x ms b p N (.int N) (.str w) (.str s) v be cl (.int (aY x n)) (.int (bI x n))) kz rfl rfl (k _ _)
 ·rw[nf t] at k;exact ak (L':=rdF x ms b p N (.int N) (.str w) (.str s) v be cl ro co) kz rfl rfl (k _ _)
theorem Hw (hn:n<ms.length):Et Sp gvL (fr (rdF x ms b p n en wd so va be cl ro co)) σ bK.whC true:=by
 refine er ((f9 (by lia):decide ((n:Int)<ms.length)=true)).symm ?_;exact et_cmp kz kg rfl
theorem xE {N:Nat}:Ev Sp gvL (fr (rdF x ms b p n (.int N) wd so va be cl ro co)) σ (.slice (.var 0) (.var 5) (.var 6)) (.str ((x.drop n).take (N - n))) σ:=gd kz kz kz
theorem nD (hpb:p≠b) (h32:Sp 32=spPlace) (hx:x.length≤aH) (hc:ms[n]?=some c) (hn:n<x.length) (hw:[119,113,115].contains c=false)
  (k:Rd Sp σ b p x ms K KE Kn (n+1) fs (match [32,99,63].contains c with|true=>due|false=>due++[jx x (match [40,41].contains c with|true=>[c]|false=>bG) ((x.drop n).take 1) .none n])):Rd Sp σ b p x ms K KE Kn n fs due:=by
 intro hd hf;have hl:(match [32,99,63].contains c with|true=>due|false=>due++[jx x (match [40,41].contains c with|true=>[c]|false=>bG) ((x.drop n).take 1) .none n]).length≤n+1:=by
  split
  ·lia
  ·rw[b0,e8];lia
 refine ar (k hl (by lia)) fun f hf'=>?_;refine⟨f+1,fun en wd so va be cl ro co=>aL (Hw ((i5.mp hc).1)) ?_⟩;refine ak (d:=.int (n+1:Nat)) (L':=rdF x ms b p n (.int (n+1:Nat)) wd so va be cl ro co) (aB kz kz fun _ k=>k) rfl rfl ?_;refine aV (t:=false) (et_cmp (fj (n:=n) kz hc) kz (congrArg some hw)) nofun fun _=>?_;refine aX (ds:=[.str ((x.drop n).take (n+1 - n)),.str bG,.none]) (L':=rdF x ms b p n (.int (n+1:Nat)) (.str ((x.drop n).take (n+1 - n))) (.str bG) .none be cl ro co) (aK (ag xE (ag kz (ag kz au))) rfl) rfl ?_;rw[j7] at*;have n113:c≠113:=fun z=>by rw[z] at hw;cases hw
 refine aD (t:=[40,41].contains c) (et_cmp (fj (n:=n) kz hc) kz rfl) (fun t=>?_) fun t=>?_
 ·rw[t] at hf';refine ak (L':=rdF x ms b p n (.int (n+1:Nat)) (.str ((x.drop n).take 1)) (.str [c]) .none be cl ro co) (fj (n:=n) kz hc) rfl rfl (rq hpb h32 hx rfl hc (by lia) hd (by lia) fun ro co=>hf' _ _ _ _ _ _ _ _)
 ·rw[t] at hf';refine aD (t:=false) (et_and (t:=false) (u:=false) (et_cmp (fj (n:=n) kz hc) kz (by show some (decide ([c]=[113]))=_;rw[fg,c9 n113])) nofun) nofun fun _=>?_;refine aD (t:=false) (et_cmp kz (qV (n:=n) (k:=n+1) kz kz) ?_) nofun fun _=>?_
  ·simp only[AS,j7,List.drop_eq_getElem_cons ((i5.mp hc).1),(i5.mp hc).2];simp[v8 n113]
  refine aV (t:=false) (et_cmp (fj (n:=n) kz hc) kz (by show some (decide ([c]=[119]))=_;rw[fg,c9 (fun z=>by rw[z] at hw;cases hw)])) nofun fun _=>?_;exact rq hpb h32 hx rfl hc (by lia) hd (by lia) fun ro co=>hf' _ _ _ _ _ _ _ _
end
end
noncomputable def opM:Option Nat→List Nat|none=>[]|some k=>113::rep k 115
noncomputable def gj (ps:List Pc) (op:Option Nat):List Nat:=aw ps++opM op
noncomputable def wqs (c:Nat):Bool:=[119,113,115].contains c
noncomputable def qp:Nat→List Pc→List Nat
 |_,[]=>[]
 |n,.w _::ps=>qp (n+1) ps
 |n,.s i _::ps=>n::qp (n+i.length+2) ps
noncomputable def cv:Nat→List Pc→List Nat
 |_,[]=>[]
 |n,.w _::ps=>cv (n+1) ps
 |n,.s i none::ps=>n::cv (n+i.length+2) ps
 |n,.s i (some _)::ps=>cv (n+i.length+2) ps
noncomputable def Hv:S:=bK.whB.aft1.iteA
noncomputable def wM:S:=bK.whB.aft3.iteB.iteB.iteA
theorem ec:∀ps:List Pc,(aw ps).length=(ae ps).length:=by
 intro zz
 induction zz with
 |nil=>
  exact rfl
 |cons zp ps ih=>
  induction zp with
  |w c=>
   show(119::aw ps).length=(c::ae ps).length;simp only[c6,c6,ih]
  |s i r=>
   show(113::rep (i.length+1) 115++aw ps).length=(34::(i++[34])++ae ps).length;simp only[b0,b0,ih];simp[rep]
theorem xf (h:c∈rep k 115):wqs c=true:=by rw[y4 h];rfl
theorem gV:∀(ps:List Pc),∀c∈aw ps,wqs c=true
 |[],c,h=>nomatch h
 |.w c'::ps,c,h=>(d0.mp (show c∈119::aw ps from h)).elim (fun z=>by rw[z];rfl) (gV ps c)
 |.s i r::ps,c,h=>(m8.mp (show c∈(113::rep (i.length+1) 115)++aw ps from h)).elim (fun h=>(d0.mp h).elim (fun z=>by rw[z];rfl) xf) (gV ps c)
theorem Co:∀c∈gj ps op,wqs c=true:=fun c h=>(m8.mp h).elim (gV ps c) fun h=>by
 induction op with
 |none=>cases h
 |some k=>exact(d0.mp h).elim (fun z=>by rw[z];rfl) xf
theorem bV {ms l:List Nat} {n c:Nat} (h:ms.drop n=c::l):ms[n]?=some c∧n<ms.length∧ms.drop (n+1)=l:=af h
section
variable {kn kb:(Nat→V)→Sto→Prop} {K:Kx} {KE:(Nat→V)→Ke} {KE':Ke} {n b p N:Nat} {x:List Nat} {ms fs:List Nat} {due:List V} {en wd so va be cl ro co:V}
theorem MD {rest:List Nat} (hr:∀c,rest.head?=some c→wqs c=false):∀(g:List Nat) (N:Nat),ms.drop N=g++rest→(∀c∈g,wqs c=true)→Kn (fr (rdF x ms b p n (.int (N+g.length:Nat)) wd so va be cl ro co)) σ→
  ∃f,Wh Sp Hv.whC Hv.whB Kr KE Kn f (fr (rdF x ms b p n (.int N) wd so va be cl ro co)) σ:=by
 intro zz
 induction zz with
 |nil=>
  intro N h _ k;refine⟨1,fm ?_ k⟩
  induction rest with
  |nil=>
   have hn:ms.length≤N:=o9.mp h;exact et_and (t:=false) (u:=false) (et_cmp kz kg (congrArg some (c9 (r8.mpr (n8.mpr hn))))) nofun
  |cons c rest=>
   refine cQ (bV h) fun h1 h2 h3=>?_;exact et_and (t:=true) (u:=false) (et_cmp kz kg (congrArg some (f9 (u7.mpr h2)))) fun _=>et_cmp (fj (n:=N) kz h1) kz (congrArg some (hr c rfl))
 |cons c g ih=>
  intro N h hg k;refine cQ (bV h) fun h1 h2 h3=>?_;simp only[c6,show N+(g.length+1)=N+1+g.length from(t4 N g.length).symm] at k;refine ar (ih (N+1) h3 (fun c hc=>hg c (.tail _ hc)) k) fun f hf=>?_;refine⟨f+1,aL (et_and (t:=true) (u:=true) (et_cmp kz kg (congrArg some (f9 (u7.mpr h2)))) fun _=>et_cmp (fj (n:=N) kz h1) kz (congrArg some (hg c (.head _)))) ?_⟩;exact ak (L':=rdF x ms b p n (.int (N+1:Nat)) wd so va be cl ro co) (aB kz kz fun _ k=>k) rfl rfl hf
theorem wD {rest:List Nat}:∀(k M:Nat),ms.drop M=rep k 115++rest→M+k≤N→(M+k=N∨∃c r,rest=c::r∧c≠115)→Kn (fr (rdF x ms b p n (.int N) wd so va be (.int (M+k:Nat)) ro co)) σ→
  ∃f,Wh Sp wM.forB.whC wM.forB.whB Kr KE Kn f (fr (rdF x ms b p n (.int N) wd so va be (.int M) ro co)) σ:=by
 intro zz
 induction zz with
 |zero=>
  intro M h hN hs kk;refine⟨1,fm ?_ kk⟩;rcases hs with hs|⟨c,r,rfl,hc⟩
  ·exact et_and (t:=false) (u:=false) (et_cmp kz kz (congrArg some (c9 (r8.mpr (n8.mpr (j8 hs.symm)))))) nofun
  ·by_cases q:M<N
   ·exact et_and (t:=true) (u:=false) (et_cmp kz kz (congrArg some (f9 (u7.mpr q)))) fun _=>et_cmp (fj (n:=M) kz (bV h).1) kz (by show some (decide ([c]=[115]))=_;rw[fg,c9 hc])
   ·exact et_and (t:=false) (u:=false) (et_cmp kz kz (congrArg some (c9 fun z=>q (u7.mp z)))) nofun
 |succ k ih=>
  intro M h hN hs kk;have e:M+1+k=M+(k+1):=t4 M k;have q7:=bV (show ms.drop M=115::(rep k 115++rest) from h);refine ar (ih (M+1) q7.2.2 (b9 (j8 e) hN) (hs.imp e.trans id) (by rw[e];exact kk)) fun f hf=>?_;refine⟨f+1,aL (et_and (t:=true) (u:=true) (et_cmp kz kz (congrArg some (f9 (u7.mpr (l3 (y8 (w7 k)) hN))))) fun _=>et_cmp (fj (n:=M) kz q7.1) kz rfl) ?_⟩;exact ak (L':=rdF x ms b p n (.int N) wd so va be (.int (M+1:Nat)) ro co) (aB kz kz fun _ k=>k) rfl rfl hf
theorem pN (hpb:p≠b):rdS σ b p fs due b=some (.list (bu fs)):=by unfold rdS;rw[aA _ _ hpb.symm,ai]
theorem Be (hpb:p≠b) {q:Nat} {e:X} (he:Ev Sp gvL (fr (rdF x ms b p n en wd so va be cl ro co)) (rdS σ b p fs due) e (.int q) (rdS σ b p fs due)) (hf:fs.length<ah):
  Ev Sp gvL (fr (rdF x ms b p n en wd so va be cl ro co)) (rdS σ b p fs due) (.append (.var 2) e) .none (rdS σ b p (fs++[q]) due):=by
 have A:=bO (Sp:=Sp) (gv:=gvL) (m:=fr (rdF x ms b p n en wd so va be cl ro co)) (o:=.var 2) (e:=e) kz (pN hpb) he (pN hpb) (by rw[iz];exact hf);have e:(rdS σ b p fs due).put b (.list (bu fs++[.int q]))=rdS σ b p (fs++[q]) due:=by
  unfold rdS;rw[gw hpb,aM,iA];rfl
 simp only[e] at A;exact A
theorem FP:aw (.s i r::ps)++tl=113::(rep (i.length+1) 115++(aw ps++tl)):=by
 show(113::rep (i.length+1) 115++aw ps)++tl=_;simp only[u6,u6,e9]
theorem Bl {ms:List Nat} {n:Nat} {i:List Nat} {r:Option (List Nat)} {ps:List Pc} {tl:List Nat} (h:ms.drop n=aw (.s i r::ps)++tl):ms[n]?=some 113∧n<ms.length∧ms.drop (n+1)=rep (i.length+1) 115++(aw ps++tl)∧ms.drop (n+i.length+2)=aw ps++tl:=by
 simp only[FP] at h;have q7:=bV h;have h4:=aT q7.2.2;simp only[show(rep (i.length+1) 115).length=i.length+1 from u4 ..,D7 n 1 i.length 1] at h4;exact⟨q7.1,q7.2.1,q7.2.2,h4⟩
theorem KV:cv q (.s i r::ps)=cv q [.s i r]++cv (q+i.length+2) ps:=by cases r<;>rfl
theorem IZ (h29:Sp 29=spOct) (hx:x.length≤aH) (h:x.drop q=34::(i++l)) (ho:Oc i r):
  Ev Sp gvL (fr (rdF x ms b p n (.int N) wd so va (.int q) (.int (q+1+(i.length+1):Nat)) ro co)) σ (.call 29 (.cons (.slice (.var 0) (.bin .add (.var 10) (.lit (.int 1))) (.bin .sub (.var 11) (.lit (.int 1)))) .nil)) (pq r) σ:=by
 have M:=gd (Sp:=Sp) (gv:=gvL) (m:=fr (rdF x ms b p n (.int N) wd so va (.int q) (.int (q+1+(i.length+1):Nat)) ro co)) (σ:=σ) (a:=.var 0) (lo:=.bin .add (.var 10) (.lit (.int 1))) (hi:=.bin .sub (.var 11) (.lit (.int 1))) (x:=x) (n:=q+1) (k:=q+1+i.length) kz kz (aB kz kz fun _ k=>by
  show opV .sub (.int ((q+1+(i.length+1):Nat):Int)) (.int 1) _ _;rw[show((q+1+i.length:Nat):Int)=((q+1+(i.length+1):Nat):Int) - 1 from(Int.add_sub_cancel ((q+1+i.length:Nat):Int) 1).symm] at k;exact k)
 have q7:=af h;have hlen:=bM q7.2.2 q7.2.1;rw[b0] at hlen;simp only[q7.2.2,j7,z6] at M;exact bt (ag M au) fun K KE k=>h29▸⟨i,r,rfl,b9 (b9 (b9 (f6 _ l.length) (m7 _ (q+1))) (j8 hlen)) hx,ho,k⟩
theorem BU (hpb:p≠b) (h29:Sp 29=spOct) (hx:x.length≤aH) (h:x.drop q=34::(i++l)) (ho:Oc i r) (hm:ms.drop (q+1)=rep (i.length+1) 115++rest) (hN:q+1+(i.length+1)≤N) (hs:q+1+(i.length+1)=N∨∃c r,rest=c::r∧c≠115) (hf:fs.length<ah)
  (k:∀be cl,kn (fr (rdF x ms b p n (.int N) wd so va be cl ro co)) (rdS σ b p (fs++cv q [.s i r]) due)):
  vcS Sp gvL wM.forB (upd (fr (rdF x ms b p n (.int N) wd so va be cl ro co)) 10 (.int q)) (rdS σ b p fs due) kn Kr kb Kc KE:=by
 refine er (bh (L':=rdF x ms b p n (.int N) wd so va (.int q) cl ro co) rfl rfl) ?_;refine ak (d:=.int (q+1:Nat)) (L':=rdF x ms b p n (.int N) wd so va (.int q) (.int (q+1:Nat)) ro co) kz rfl rfl ?_;refine dI (wD (i.length+1) (q+1) hm hN hs ?_);refine aV (et_cmp (IZ h29 hx h ho) kz Cx) (fun t=>?_) fun t=>?_
 ·induction r with
  |some o=>exact noT t
  |none=>exact aE (Be hpb kz hf) (k _ _)
 ·cases r with
  |none=>exact noT t.symm
  |some o=>
   have k:=k (.int q) (.int (q+1+(i.length+1):Nat));simp only[show cv q [.s i (some o)]=[] from rfl,d7] at k;exact k
theorem CD (h:q+(ae ps).length=N∨∃c r,rest=c::r∧c≠115):q=N∨∃c r,aw ps++rest=c::r∧c≠115:=by
 induction ps with
 |nil=>exact h
 |cons p ps _=>induction p with
  |w c=>exact .inr ⟨119,_,rfl,by decide⟩
  |s i r=>exact .inr ⟨113,_,rfl,by decide⟩
theorem yo (hpb:p≠b) (h29:Sp 29=spOct) (hx:x.length≤aH) {tl rest:List Nat}:∀(ps:List Pc) (q:Nat) (fs:List Nat) (be cl:V),x.drop q=ae ps++tl→ms.drop q=aw ps++rest→(∀p∈ps,p.Ok)→q+(ae ps).length≤N→(q+(ae ps).length=N∨∃c r,rest=c::r∧c≠115)→fs.length≤q+1→q≤x.length→
  (∀be cl,Kn (fr (rdF x ms b p n (.int N) wd so va be cl ro co)) (rdS σ b p (fs++cv q ps) due))→
  fY 10 (fun _=>True) (fun m σ kn kb=>vcS Sp gvL wM.forB m σ kn Kr kb kn KE) Kn (bu (qp q ps)) (fr (rdF x ms b p n (.int N) wd so va be cl ro co)) (rdS σ b p fs due):=by
 intro zz
 induction zz with
 |nil=>
  intro q fs be cl h hm hp hN hs hf hq k;have:=k be cl;simp only[show cv q []=[] from rfl,d7] at this;exact this
 |cons zp ps ih=>
  induction zp with
  |w c=>
   intro q fs be cl h hm hp hN hs hf hq k;simp only[uW,←g5] at hN hs;exact ih (q+1) fs be cl (af (show x.drop q=c::(ae ps++tl) from h)).2.2 (bV (show ms.drop q=119::(aw ps++rest) from hm)).2.2 (fun p hp'=>hp p (.tail _ hp')) hN hs (j1 hf) (af (show x.drop q=c::(ae ps++tl) from h)).2.1 k
  |s i r=>
   intro q fs be cl h hm hp hN hs hf hq k;have q7:=Bj h;simp only[jz,←g5,←g5] at hN hs;have hlen:=bM q7.1 hq;rw[c6,b0,c6] at hlen;have hl:(cv q [.s i r]).length≤1:=by cases r<;>first|exact f3 1|exact g6 1
   refine BU hpb h29 hx q7.1 (hp _ (.head _)).1 (Bl hm).2.2.1 (b9 (b9 (j8 (D7 q 1 i.length 1)) (f6 _ _)) hN) ((CD hs).imp (D7 q 1 i.length 1).trans id) (j0 hf (j0 (i9 (b9 hq hx)) (by decide))) fun be cl=>⟨trivial,ih (q+i.length+2) _ be cl q7.2 (Bl hm).2.2.2 (fun p hp'=>hp p (.tail _ hp')) hN hs (by rw[b0];exact b9 (t7 hf hl) (j1 (y3 (f6 q i.length) 2))) (by rw[g5,←hlen];exact i6 (i9 (i6 (m7 1 _) _)) q) ?_⟩
   ·rw[KV,←e9] at k;exact k
end
noncomputable def tkD (t:List Nat):List Nat×V:=match t with
 |c::r=>(match ez (c::r) with|some i=>(cf,.int i)|none=>(pn c r,.none))
 |[]=>(bG,.none)
noncomputable def nB:List Pc→Option (Option (List Nat))|[.s _ r]=>some r|_=>none
noncomputable def ib (ps:List Pc) (op:Option Nat):List Nat×V:=match op with
 |some _=>(bG,.none)
 |none=>match nB ps with
  |some r=>(dw,pq r)
  |none=>match decide (fX ps=0) with|true=>tkD (ae ps)|false=>(bG,.none)
theorem IW (t:List Nat):(tkD t).2.ok=true:=by
 rcases t with _|⟨c,r⟩
 ·rfl
 ·unfold tkD;dsimp only;generalize ez (c::r)=o
  induction o with
  |none=>rfl
  |some i=>rfl
theorem EQ:(ib ps op).2.ok=true:=by
 unfold ib;generalize nB ps=o;generalize decide (fX ps=0)=d
 induction op with
 |some k=>rfl
 |none=>induction o with
  |some r=>exact xl
  |none=>induction d with
   |false=>rfl
   |true=>exact(IW (ae ps))
theorem zv (i:List Nat):cut (34::(i++[34])) (some 1) (some (-1))=i:=by
 have e1:di (34::(i++[34])).length 1=1:=by
  unfold di;refine er (i3 (by decide)) ?_;exact Nat.min_eq_left (i9 (g6 _))
 have e2:di (34::(i++[34])).length (-1)=i.length+1:=by
  unfold di;rw[c6,b0,e8,Int.add_comm,←Int.sub_eq_add_neg];exact Int.toNat_sub (i.length+1+1) 1
 unfold cut;dsimp only;rw[e1,e2,List.take_succ_cons,z6];rfl
theorem si (ps:List Pc):fX ps≠0→(aw ps).contains 113=true:=by
 induction ps with
 |nil=>exact fun h=>(h rfl).elim
 |cons p ps ih=>
  induction p with
  |w c=>exact fun h=>d6.mpr (.tail 119 (d6.mp (ih h)))
  |s i r=>exact fun _=>rfl
theorem uD (ps:List Pc):fX ps=0→∀c∈aw ps,c=119:=by
 induction ps with
 |nil=>exact fun _ c h=>nomatch h
 |cons p ps ih=>
  intro h c hc
  induction p with
  |w c'=>exact(d0.mp (show c∈119::aw ps from hc)).elim id (ih h c)
  |s i r=>cases h
theorem GW (hne:ps≠[]∨op≠none):(∃i r,ps=[.s i r]∧op=none)∨(∃k,ps=[]∧op=some k)∨(fX ps=0∧op=none∧∃c q,ae ps=c::q)∨
  ((gj ps op).contains 113=true∧ib ps op=(bG,.none)∧∃c t,gj ps op=c::t∧(c=119∨t.contains 113=true∨(c::t).contains 119=true)):=by
 induction op with
 |some k=>
  right
  induction ps with
  |nil=>exact .inl ⟨k,rfl,rfl⟩
  |cons p ps=>
   right;right;refine⟨d6.mpr (k8 _ (.head _)),rfl,?_⟩
   induction p with
   |w c=>exact⟨119,_,rfl,.inl rfl⟩
   |s i r=>exact⟨113,_,rfl,.inr (.inl (d6.mpr (k8 _ (.head _))))⟩
 |none=>
  have hps:=hne.resolve_right (fun z=>z rfl);by_cases h0:fX ps=0
  ·exact .inr (.inr (.inl ⟨h0,rfl,jA hps⟩))
  have m113:(gj ps none).contains 113=true:=d6.mpr (A8 _ (d6.mp (si ps h0)));have sv:nB ps=none→ib ps none=(bG,.none):=fun h=>by
   unfold ib;exact er h (er (c9 h0) rfl)
  clear h0 hne;rcases ps with _|⟨p,ps⟩
  ·exact absurd rfl hps
  clear hps
  induction p with
  |w c=>exact .inr (.inr (.inr ⟨m113,sv rfl,119,_,rfl,.inl rfl⟩))
  |s i r=>
   rcases ps with _|⟨p,ps⟩
   ·exact .inl ⟨i,r,rfl,rfl⟩
   induction p with
   |w c=>exact .inr (.inr (.inr ⟨m113,sv rfl,113,_,rfl,.inr (.inr (d6.mpr (A8 (opM none) (k8 (113::rep (i.length+1) 115) (.head (aw ps))))))⟩))
   |s i' r'=>exact .inr (.inr (.inr ⟨m113,sv rfl,113,_,rfl,.inr (.inl (d6.mpr (A8 (opM none) (k8 (rep (i.length+1) 115) (.head (rep (i'.length+1) 115++aw ps))))))⟩))
theorem Me:∀(ps:List Pc) (n:Nat),∀q∈qp n ps,n≤q∧q<n+(ae ps).length:=by
 intro zz
 induction zz with
 |nil=>
  intro n q h;exact nomatch h
 |cons zp ps ih=>
  induction zp with
  |w c=>
   intro n q h;have:=ih (n+1) q h;exact⟨G6 this.1,F7 this.2 (t4 n _)⟩
  |s i r=>
   intro n q h;rcases d0.mp (show q∈n::qp (n+i.length+2) ps from h) with rfl|h
   ·exact⟨f3 _,jz▸y8 (Nat.add_pos_left (w7 _) _)⟩
   ·have:=ih (n+i.length+2) q h;exact⟨b9 (b9 (f6 n i.length) (f6 _ 2)) this.1,F7 this.2 (by rw[jz,g5 n,g5 n])⟩
theorem oB (h:∀j,n≤j→j<n+k→p j=false):(List.range' n k).filter p=[]:=
 H5.mpr fun j hj=>by
  rw[h j (List.mem_range'_1.mp hj).1 (List.mem_range'_1.mp hj).2];decide
theorem mj (n a b:Nat):List.range' n (a+b)=List.range' n a++List.range' (n+a) b:=by
 exact er List.range'_append_1 rfl
noncomputable def isQ (ms fs:List Nat) (j:Nat):Bool:=decide (ms[j]?=some 113)&& !fs.contains j
theorem xy {ms a r:List Nat} {n j:Nat} (h:ms.drop n=a++r) (h1:n≤j) (h2:j<n+a.length):∃c∈a,ms[j]?=some c:=by
 have e:(ms.drop n)[j - n]?=ms[j]?:=by rw[F5,Nat.add_sub_of_le h1]
 have hl:j - n<a.length:=Nat.sub_lt_left_of_lt_add h1 h2;rw[h,List.getElem?_append_left hl] at e;exact⟨a[j - n],List.getElem_mem hl,by rw[←e,g7 hl]⟩
theorem Cs {ms fs rest:List Nat}:∀(ps:List Pc) (n:Nat),ms.drop n=aw ps++rest→(∀q∈qp n ps,q∉fs)→(List.range' n (ae ps).length).filter (isQ ms fs)=qp n ps:=by
 intro zz
 induction zz with
 |nil=>
  intro n h hq;exact rfl
 |cons zp ps ih=>
  induction zp with
  |w c=>
   intro n h hq;show(List.range' n (ae ps).length.succ).filter _=_;refine er w9 (er D5 ?_);have:isQ ms fs n=false:=by unfold isQ;rw[(bV (show ms.drop n=119::(aw ps++rest) from h)).1];rfl
   refine er this ?_;exact ih (n+1) (bV (show ms.drop n=119::(aw ps++rest) from h)).2.2 hq
  |s i r=>
   intro n h hq;have hm':ms.drop n=113::(rep (i.length+1) 115++(aw ps++rest)):=by
    refine er h ?_;exact congrArg (113:: ·) (e9 (rep (i.length+1) 115) (aw ps) rest)
   have q7:=bV hm';have hr:(rep (i.length+1) 115).length=i.length+1:=u4 ..;rw[(jz.trans (x7 (i.length+1) 1 _)),w9,D5,mj,C0];have e1:isQ ms fs n=true:=by
    unfold isQ;refine er q7.1 ?_;rw[A4.mpr fun z=>hq n (.head _) (d6.mp z)];rfl
   have e2:(List.range' (n+1) (i.length+1)).filter (isQ ms fs)=[]:=oB fun j a b=>by
    refine aj (xy q7.2.2 a (by rw[hr];exact b)) fun c hc e=>?_;unfold isQ;rw[e,y4 hc];rfl
   have h4:=aT q7.2.2;rw[hr] at h4;rw[e1,e2,y1,D7 n 1 i.length 1] at*;show n::_=n::_;rw[ih (n+i.length+2) h4 fun q hq'=>hq q (.tail _ hq')]
section
variable {kn kb:(Nat→V)→Sto→Prop} {K:Kx} {KE:(Nat→V)→Ke} {KE':Ke} {n b p N:Nat} {x:List Nat} {ms fs:List Nat} {due:List V} {en wd so va be cl ro co:V}
theorem Mq (hpb:p≠b) (hN:N=n+M) (hm:N≤ms.length) (hx:ms.length≤aH):Ev Sp gvL (fr (rdF x ms b p n (.int N) wd so va be cl ro co)) (rdS σ b p fs due) (.comp false (.var 14) (.and (.cmp .eq (.sub (.var 1) (.var 14)) (.lit (.str [113]))) (.cmp .nin (.var 14) (.var 2))) 14 1 (.var 5) (.var 6))
  (.lst (bu ((List.range' n M).filter (isQ ms fs)))) (rdS σ b p fs due):=by
 have hs:N≤ah:=b9 hm (b9 hx (by decide));have U (v:V):upd (fr (rdF x ms b p n (.int N) wd so va be cl ro co)) 14 v=fr (rdF x ms b p n (.int N) wd so va be cl ro co++[v]):=by
  rw[qT _ 1,bh rfl rfl];rfl
 have e:bu ((List.range' n M).filter (isQ ms fs))=(List.range M).filterMap (fun k=>match isQ ms fs (n+k) with|true=>some (V.int ((n:Int)+(k:Int)))|false=>none):=by
  refine Eq.trans ?_ (eY (p:=fun k=>isQ ms fs (n+k)) (f:=fun k=>V.int ((n:Int)+(k:Int))) (List.range M)).symm;refine er List.range'_eq_map_range (er List.filter_map ?_);unfold bu;refine er x9 ?_;rfl
 refine er e ?_;refine iU (l:=List.range M) (f:=fun(k:Nat)=>V.int ((n:Int)+(k:Int))) kz kz ?_ trivial (fun k hk=>⟨isQ ms fs (n+k),?_,?_⟩) ?_
 ·show(if _ then some _ else none)=_;refine er (i7 ⟨⟨g9 _,n8.mpr (b9 (hN▸f6 ..) hs)⟩,n8.mpr hs,u5 (by decide) (g9 N)⟩) ?_;exact er (show((N:Int) - (n:Int)).toNat=M by rw[hN,Int.toNat_sub,j7]) rfl
 ·rw[U];unfold isQ;refine er ((g7 (l3 (B3 (B1.mp hk) n) (hN▸hm)))) ?_;rw[(decide_eq_decide.mpr ⟨fun z=>congrArg (fun x=>[x]) (c7 z),fun z=>congrArg some (j2 z).1⟩)];exact et_and (et_cmp (fj (n:=n+k) kz (g7 (l3 (B3 (B1.mp hk) n) (hN▸hm)))) kz rfl) fun _=>et_cmp (d:=.int ((n+k:Nat):Int)) kz kz (rt (pN hpb))
 ·cases isQ ms fs (n+k)
  ·rfl
  ·rw[U];exact⟨rfl,kz⟩
 ·refine b9 (List.length_filterMap_le _ _) ?_;refine er A1 ?_;exact b9 (m7 M n) (hN▸hs)
theorem JH:sP.contains c=(decide (97≤c)&&decide (c≤122)):=by
 by_cases h:c<123
 ·have:∀c<123,sP.contains c=(decide (97≤c)&&decide (c≤122)):=by decide+kernel
  exact this c h
 ·simp only[c9 (p:=c≤122) (fun z=>h (Nat.lt_succ_of_le z)),v4];cases q:sP.contains c with
  |false=>rfl
  |true=>
   have:∀c∈sP,c<123:=by decide
   exact absurd (this c (d6.mp q)) h
theorem tw (h0:fX ps=0):ib ps none=tkD (ae ps):=by
 unfold ib;have:nB ps=none:=by
  rcases ps with _|⟨p,ps⟩
  ·rfl
  induction p with
  |w c=>rfl
  |s i r=>exact nomatch h0
 simp only[this,f9 h0]
theorem Bv (k:kn (fr (rdF x ms b p n en (.str (c::r)) (.str (pn c r)) .none be cl ro co)) σ):
  vcS Sp gvL bK.whB.aft3.iteB.iteB.iteB.iteA.aft1.iteB (fr (rdF x ms b p n en (.str (c::r)) (.str bG) .none be cl ro co)) σ kn Kr kb Kc KE:=by
 have h0:Ev Sp gvL (fr (rdF x ms b p n en (.str (c::r)) (.str bG) .none be cl ro co)) σ (.sub (.var 7) (.lit (.int 0))) (.str [c]) σ:=eO (n:=0) kz kz rfl;unfold pn at k;refine aD (t:=decide (c=36)&&decide (((c::r).length:Int)>1)) (et_and (et_cmp h0 kz (congrArg some fg)) fun _=>et_cmp (dE kz fun _ k=>k) kz rfl) (fun t=>?_) fun t=>?_
 ·rw[t] at k;exact ak (L':=rdF x ms b p n en (.str (c::r)) (.str sId) .none be cl ro co) kz rfl rfl k
 ·rw[t,JH] at k;refine aV (t:=decide (97≤c)&&decide (c≤122)) (et_cmp2 kz h0 kz rfl rfl) (fun t=>?_) fun t=>?_
  ·rw[t] at k;exact ak (L':=rdF x ms b p n en (.str (c::r)) (.str Hu) .none be cl ro co) kz rfl rfl k
  ·rw[t] at k;exact k
theorem sV {l:List Nat} {d e:Nat} (h:∀c∈l,c=d) (he:e≠d):l.contains e=false:=by
 cases q:l.contains e with
 |false=>rfl
 |true=>exact absurd (h e (d6.mp q)) he
theorem nk {l:List Nat} {e:Nat} (h:e∉l):l.contains e=false:=by
 cases q:l.contains e with
 |false=>rfl
 |true=>exact absurd (d6.mp q) h
theorem As {c:Nat} (h:wqs c=true) {l:List Nat} (hl:∀c∈l,wqs c=false):l.contains c=false:=nk fun z=>noT ((hl c z).symm.trans h)
theorem wN (h1:ms[n]?=some c0) (T0:(ms.drop n).take (N - n)=c0::g) (T1:(ms.drop (n+1)).take (N - (n+1))=g):Et Sp gvL (fr (rdF x ms b p n (.int N) wd so va be cl ro co)) σ (.and (.cmp .eq (.sub (.var 1) (.var 5)) (.lit (.str [113]))) (.and (.cmp .nin (.lit (.str [113])) (.slice (.var 1) (.bin .add (.var 5) (.lit (.int 1))) (.var 6))) (.cmp .nin (.lit (.str [119])) (.slice (.var 1) (.var 5) (.var 6))))) (decide (c0=113)&&(!g.contains 113&& !(c0::g).contains 119)):=by
 have E0:=qV (Sp:=Sp) (L:=(rdF x ms b p n (.int N) wd so va be cl ro co).drop 2) (s0:=.str x) (ms:=ms) (σ:=σ) (lo:=.var 5) (hi:=.var 6) (n:=n) (k:=N) kz kz;have E1:=qV (Sp:=Sp) (L:=(rdF x ms b p n (.int N) wd so va be cl ro co).drop 2) (s0:=.str x) (ms:=ms) (σ:=σ) (lo:=.bin .add (.var 5) (.lit (.int 1))) (hi:=.var 6) (n:=n+1) (k:=N) kz kz;simp only[T0] at E0;rw[T1] at E1;exact et_and (et_cmp (fj (n:=n) kz h1) kz (congrArg some fg)) fun _=>et_and (et_cmp kz E1 AL) fun _=>et_cmp kz E0 AL
theorem Hx (T0:(ms.drop n).take (N - n)=l):Et Sp gvL (fr (rdF x ms b p n (.int N) wd so va be cl ro co)) σ (.cmp .inn (.lit (.str [113])) (.slice (.var 1) (.var 5) (.var 6))) (l.contains 113):=by
 have E0:=qV (Sp:=Sp) (L:=(rdF x ms b p n (.int N) wd so va be cl ro co).drop 2) (s0:=.str x) (ms:=ms) (σ:=σ) (lo:=.var 5) (hi:=.var 6) (n:=n) (k:=N) kz kz;simp only[T0] at E0;exact et_cmp kz E0 AS
noncomputable abbrev zO:S:=bK.whB.aft3.iteB
theorem Fv (hpb:p≠b) (h29:Sp 29=spOct) {i:List Nat} {r:Option (List Nat)} {g w:List Nat} (h1:ms[n]?=some 113) (T0:(ms.drop n).take (N - n)=113::g) (T1:(ms.drop (n+1)).take (N - (n+1))=g) (hg:∀c∈g,c=115) (hw:34::(i++[34])=w) (hi:i.length≤aH) (hO:Oc i r) (hn:n∉fs) (hf:fs.length<ah)
  (k:∀be cl,kn (fr (rdF x ms b p n (.int N) (.str w) (.str dw) (pq r) be cl ro co)) (rdS σ b p (fs++cv n [.s i r]) due)):
  vcS Sp gvL zO (fr (rdF x ms b p n (.int N) (.str w) (.str bG) .none be cl ro co)) (rdS σ b p fs due) kn Kr kb Kc KE:=by
 have C2:=wN (Sp:=Sp) (x:=x) (b:=b) (p:=p) (wd:=.str w) (so:=.str bG) (va:=.none) (be:=be) (cl:=cl) (ro:=ro) (co:=co) (σ:=rdS σ b p fs due) h1 T0 T1;rw[sV hg (by decide),x5,sV hg (by decide)] at C2;refine aD (t:=true) C2 (fun _=>?_) nofun;refine aV (t:=true) (et_cmp (d:=.int n) kz kz ((rt (pN hpb)).trans (by rw[nk hn];rfl))) (fun _=>?_) nofun;refine aX (ds:=[.str dw,pq r]) (L':=rdF x ms b p n (.int N) (.str w) (.str dw) (pq r) be cl ro co) (aK (ag kz (ag (bt (ag (eG (d:=.str w) (l:=.int 1) (u:=.int (-1)) (v:=.str i) kz kz kz fun K k=>?_) au) fun K KE k=>h29▸⟨i,r,rfl,hi,hO,k⟩) au)) rfl) rfl ?_
 ·show K (.str (cut w (some 1) (some (-1)))) _;rw[←hw,zv];exact k
 induction r with
 |none=>exact aV (t:=true) kz (fun _=>aE (Be hpb kz hf) (k _ _)) nofun
 |some o=>
  have k:=k be cl;simp only[show cv n [.s i (some o)]=[] from rfl,d7] at k;exact aV (t:=false) kz nofun fun _=>k
theorem Fw (hpb:p≠b) {g w:List Nat} (h1:ms[n]?=some 113) (T0:(ms.drop n).take (N - n)=113::g) (T1:(ms.drop (n+1)).take (N - (n+1))=g) (hg:∀c∈g,c=115) (hn:n∈fs)
  (k:kn (fr (rdF x ms b p n (.int N) (.str w) (.str bG) .none be cl ro co)) (rdS σ b p fs due)):
  vcS Sp gvL zO (fr (rdF x ms b p n (.int N) (.str w) (.str bG) .none be cl ro co)) (rdS σ b p fs due) kn Kr kb Kc KE:=by
 have C2:=wN (Sp:=Sp) (x:=x) (b:=b) (p:=p) (wd:=.str w) (so:=.str bG) (va:=.none) (be:=be) (cl:=cl) (ro:=ro) (co:=co) (σ:=rdS σ b p fs due) h1 T0 T1;rw[sV hg (by decide),x5,sV hg (by decide)] at C2;refine aD (t:=true) C2 (fun _=>?_) nofun;exact aV (t:=false) (et_cmp (d:=.int n) kz kz ((rt (pN hpb)).trans (by rw[d6.mpr hn];rfl))) nofun fun _=>k
theorem Jj (h30:Sp 30=kZ) {g q:List Nat} {c:Nat} (h1:ms[n]?=some 119) (T0:(ms.drop n).take (N - n)=119::g) (T1:(ms.drop (n+1)).take (N - (n+1))=g) (hg:∀c∈g,c=119) (hl:(c::q).length≤aH)
  (k:kn (fr (rdF x ms b p n (.int N) (.str (c::q)) (.str (tkD (c::q)).1) (tkD (c::q)).2 be cl ro co)) σ):
  vcS Sp gvL zO (fr (rdF x ms b p n (.int N) (.str (c::q)) (.str bG) .none be cl ro co)) σ kn Kr kb Kc KE:=by
 refine aD (t:=false) (wN h1 T0 T1) nofun fun _=>?_;have C3:=Hx (Sp:=Sp) (x:=x) (b:=b) (p:=p) (wd:=.str (c::q)) (so:=.str bG) (va:=.none) (be:=be) (cl:=cl) (ro:=ro) (co:=co) (σ:=σ) T0;rw[sV (fun c h=>(d0.mp h).elim id (hg c)) (by decide)] at C3;refine aD (t:=false) C3 nofun fun _=>?_;refine aV (t:=true) (et_cmp (fj (n:=n) kz h1) kz rfl) (fun _=>?_) nofun;refine ak (d:=dy (ez (c::q))) (L':=rdF x ms b p n (.int N) (.str (c::q)) (.str bG) (dy (ez (c::q))) be cl ro co) (bt (ag kz au) fun K KE k=>h30▸⟨c,q,rfl,j0 hl (by decide),k⟩) rfl rfl ?_;have tk:tkD (c::q)=(match ez (c::q) with|some i=>(cf,V.int i)|none=>(pn c q,.none)):=rfl;rw[tk] at k;cases e:ez (c::q) with
 |some j=>
  rw[e] at k;exact aD (t:=true) kz (fun _=>ak (L':=rdF x ms b p n (.int N) (.str (c::q)) (.str cf) (.int j) be cl ro co) kz rfl rfl k) nofun
 |none=>
  rw[e] at k;exact aD (t:=false) kz nofun fun _=>Bv k
theorem Fu (hpb:p≠b) (h29:Sp 29=spOct) (hx:x.length≤aH) (hmx:ms.length≤aH) (h1:ms[n]?=some c0) (T0:(ms.drop n).take (N - n)=c0::g) (T1:(ms.drop (n+1)).take (N - (n+1))=g) (d1:(c0::g).contains 113=true) (d4:c0=119∨g.contains 113=true∨(c0::g).contains 119=true)
  (hM:N=n+M) (hN:N≤ms.length) (hrange:(List.range' n M).filter (isQ ms fs)=qp n ps) (h:x.drop n=ae ps++tl) (hm:ms.drop n=aw ps++rest') (hp:∀p∈ps,p.Ok) (hl:n+(ae ps).length≤N) (he:n+(ae ps).length=N∨∃c r,rest'=c::r∧c≠115) (hf:fs.length≤n+1) (hn:n≤x.length)
  (k:∀be cl,kn (fr (rdF x ms b p n (.int N) (.str w) (.str bG) .none be cl ro co)) (rdS σ b p (fs++cv n ps) due)):
  vcS Sp gvL zO (fr (rdF x ms b p n (.int N) (.str w) (.str bG) .none be cl ro co)) (rdS σ b p fs due) kn Kr kb Kc KE:=by
 have C2:=wN (Sp:=Sp) (x:=x) (b:=b) (p:=p) (wd:=.str w) (so:=.str bG) (va:=.none) (be:=be) (cl:=cl) (ro:=ro) (co:=co) (σ:=rdS σ b p fs due) h1 T0 T1;have e2:(decide (c0=113)&&(!g.contains 113&& !(c0::g).contains 119))=false:=by
  rcases d4 with d4|d4|d4
  ·rw[d4];rfl
  ·rw[d4];exact v4 _
  ·rw[d4,Bool.not_true,v4,v4]
 rw[e2] at C2;refine aD (t:=false) C2 nofun fun _=>?_;have C3:=Hx (Sp:=Sp) (x:=x) (b:=b) (p:=p) (wd:=.str w) (so:=.str bG) (va:=.none) (be:=be) (cl:=cl) (ro:=ro) (co:=co) (σ:=rdS σ b p fs due) T0;rw[d1] at C3;refine aD (t:=true) C3 (fun _=>?_) nofun;have Q:=Mq (Sp:=Sp) (σ:=σ) (x:=x) (fs:=fs) (due:=due) (wd:=.str w) (so:=.str bG) (va:=.none) (be:=be) (cl:=cl) (ro:=ro) (co:=co) hpb hM hN hmx;rw[hrange] at Q;exact gZ Q kz (es:=bu (qp n ps)) rfl (yo hpb h29 hx ps n fs be cl h hm hp hl he hf hn k)
theorem mK (hpb:p≠b) (h32:Sp 32=spPlace) (hx:x.length≤aH) (hmx:ms.length≤x.length) {c0:Nat} {g rest w s fs':List Nat} {v:V} (hm:ms.drop n=c0::(g++rest)) (hq:∀c∈c0::g,wqs c=true) (hr:∀c,rest.head?=some c→wqs c=false) (hw:(x.drop n).take (g.length+1)=w) (hv:v.ok=true) (hfs:fs'.length≤n+(g.length+1)+1)
  (body:∀(N:Nat) (be cl ro co:V) (kn kb kc:(Nat→V)→Sto→Prop),N=n+(g.length+1)→N≤ms.length→ms[n]?=some c0→(ms.drop n).take (N - n)=c0::g→(ms.drop (n+1)).take (N - (n+1))=g→fs.length≤n+1→(∀be cl,kn (fr (rdF x ms b p n (.int N) (.str w) (.str s) v be cl ro co)) (rdS σ b p fs' due))→
   vcS Sp gvL zO (fr (rdF x ms b p n (.int N) (.str w) (.str bG) .none be cl ro co)) (rdS σ b p fs due) kn K kb kc KE)
  (k:Rd Sp σ b p x ms K KE Kn (n+(g.length+1)) fs' (due++[jx x s w v n])):Rd Sp σ b p x ms K KE Kn n fs due:=by
 intro hd hf;refine cQ (bV hm) fun h1 h2 h3=>?_;refine ar (k (by rw[b0,e8];lia) hfs) fun f hf'=>?_;have hNl:n+(g.length+1)≤ms.length:=by
  have:=bM h3 h2;rw[b0] at this;lia
 have c32:=As (hq c0 (.head _)) (l:=[32,99,63]) (by decide);refine⟨f+1,fun en wd so va be cl ro co=>aL (Hw h2) ?_⟩;refine ak (d:=.int (n+1:Nat)) (L':=rdF x ms b p n (.int (n+1:Nat)) wd so va be cl ro co) kz rfl rfl ?_;refine aV (t:=true) (et_cmp (fj (n:=n) kz h1) kz (congrArg some (hq c0 (.head _)))) (fun _=>dI (MD hr g (n+1) h3 (fun c hc=>hq c (.tail _ hc)) ?_)) nofun;refine er (show n+1+g.length=n+(g.length+1) by lia) ?_;refine aX (M1:=rdS σ b p fs due) (ds:=[.str w,.str bG,.none]) (L':=rdF x ms b p n (.int (n+(g.length+1):Nat)) (.str w) (.str bG) .none be cl ro co) (aK (evp ?_ (evp kz (evp kz au))) rfl) rfl ?_
 ·have W:=xE (Sp:=Sp) (x:=x) (ms:=ms) (n:=n) (b:=b) (p:=p) (wd:=wd) (so:=so) (va:=va) (be:=be) (cl:=cl) (ro:=ro) (co:=co) (σ:=rdS σ b p fs due) (N:=n+(g.length+1));rw[j7,hw] at W;exact W
 refine aD (t:=false) (et_cmp (fj (n:=n) kz h1) kz (congrArg some (As (hq c0 (.head _)) (l:=[40,41]) (by decide)))) nofun fun _=>?_;refine body _ be cl ro co _ _ _ rfl hNl h1 ?_ ?_ hf fun be cl=>?_
 ·rw[hm,j7];exact z6 (l₁:=c0::g)
 ·exact er h3 (er (show n+(g.length+1) - (n+1)=g.length by lia) (er z6 rfl))
 ·refine rq hpb h32 hx hv h1 (by lia) hd (by lia) fun ro co=>?_;simp only[c32];exact hf' _ _ _ _ _ _ _ _
theorem xU:∀(ps:List Pc) (n:Nat),fX ps=0→cv n ps=[]
 |[],_,_=>rfl
 |.w _::ps,n,h=>xU ps (n+1) h
 |.s _ _::_,_,h=>nomatch h
theorem Cq (hm:ms.drop n=aw ps++(opM op++rest)) (hf1:∀y∈fs,y<n∨n+(ae ps).length≤y) (hf2:op≠none→n+(ae ps).length∈fs):(List.range' n ((ae ps).length+(opM op).length)).filter (isQ ms fs)=qp n ps:=by
 rw[mj,C0,Cs ps n hm fun q hq hqf=>by
  have a:=Me ps n q hq;have:=hf1 q hqf;lia]
 induction op with
 |none=>exact d7 _
 |some kk=>
  have hd2:=aT hm;rw[ec] at hd2;show _++(List.range' (n+(ae ps).length) (rep kk 115).length.succ).filter _=_;have q1:isQ ms fs (n+(ae ps).length)=false:=by
   unfold isQ;rw[d6.mpr (hf2 nofun)];exact v4 _
  rw[w9,D5,q1,oB fun j a b=>?_]
  ·exact d7 _
  ·refine aj (xy (bV (show ms.drop (n+(ae ps).length)=113::(rep kk 115++rest) from hd2)).2.2 a b) fun c hc e=>?_;unfold isQ;rw[e,y4 hc];rfl
theorem AF (hpb:p≠b) (h29:Sp 29=spOct) (h30:Sp 30=kZ) (h32:Sp 32=spPlace) (hx:x.length≤aH) (hmx:ms.length≤x.length) (hne:ps≠[]∨op≠none) (h:x.drop n=ae ps++tl) (hm:ms.drop n=gj ps op++rest) (hp:∀p∈ps,p.Ok) (hr:∀c,rest.head?=some c→wqs c=false)
  (hw:(x.drop n).take (gj ps op).length=w) (hw':op=none→w=ae ps) (hf1:∀y∈fs,y<n∨n+(ae ps).length≤y) (hf2:op≠none→n+(ae ps).length∈fs) (hfs:(fs++cv n ps).length≤n+(gj ps op).length+1)
  (k:Rd Sp σ b p x ms K KE Kn (n+(gj ps op).length) (fs++cv n ps) (due++[jx x (ib ps op).1 w (ib ps op).2 n])):Rd Sp σ b p x ms K KE Kn n fs due:=by
 have hall:=Co (ps:=ps) (op:=op);have hok:=EQ (ps:=ps) (op:=op);have hxl:ps=[]∨n+(ae ps).length≤x.length:=by
  induction ps with
  |nil=>exact .inl rfl
  |cons q ps=>
   refine cu (jA (ps:=q::ps) nofun) fun c r e=>?_;have:=bM h (B2 (af (h.trans (by rw[e];rfl))).2.1);rw[b0] at this;exact .inr (by lia)
 rcases GW hne with ⟨i,r,rfl,rfl⟩|⟨kk,rfl,rfl⟩|⟨c1,rfl,c,q,hcq⟩|⟨d1,d2,c,t,d3,d4⟩
 ·have e:gj [.s i r] none=113::rep (i.length+1) 115:=(d7 _).trans (d7 _);rw[e] at hm hw hfs k hall;have hw2:34::(i++[34])=w:=(hw' rfl).symm▸(d7 _).symm;have hl2:(ae [.s i r]).length=i.length+2:=by rw[←hw' rfl,←hw2,c6,b0];rfl
  rw[hl2] at hf1 hxl;have hxl:=hxl.resolve_left nofun;exact mK hpb h32 hx hmx hm hall hr hw xl hfs (fun N be cl ro co kn kb kc hN hNl h1 T0 T1 hf k=>Fv hpb h29 h1 T0 T1 (fun c h=>y4 h) hw2 (by lia) (hp _ (.head _)).1 (fun z=>by have:=hf1 n z;lia) (by unfold aH at hx;unfold ah;lia) k) k
 ·simp only[show cv n []=[] from rfl,d7] at hfs k;exact mK hpb h32 hx hmx hm hall hr hw rfl hfs (fun N be cl ro co kn kb kc hN hNl h1 T0 T1 hf k=>Fw hpb h1 T0 T1 (fun c h=>y4 h) (hf2 nofun) (k be cl)) k
 ·have hmk:=uD ps c1;have hrm:gj ps none=aw ps:=d7 _;have hl:(aw ps).length=(c::q).length:=by rw[ec,hcq]
  simp only[xU ps n c1,d7,hrm] at hfs k;rw[tw c1,hcq,←hcq,←hw' rfl] at k;rw[tw c1,hcq] at hok;rw[hrm] at hm hw hall;have hxl:=hxl.resolve_left fun z=>by rw[z] at hcq;exact absurd hcq nofun
  cases e:aw ps with
  |nil=>rw[e] at hl;exact absurd hl nofun
  |cons c0 g=>
   rw[e] at hm hw hall hfs k hmk hl;have e0:=hmk c0 (.head _);rw[e0] at hm hall;rw[((hw' rfl).trans hcq)] at hw k;exact mK hpb h32 hx hmx hm hall hr hw hok hfs (fun N be cl ro co kn kb kc hN hNl h1 T0 T1 hf k=>Jj h30 h1 T0 T1 (fun c h=>hmk c (.tail _ h)) (by rw[←hcq];lia) (k be cl)) k
 ·rw[d2] at k;have hrm:ms.drop n=aw ps++(opM op++rest):=by rw[hm];exact e9 ..
  have hML:(gj ps op).length=(ae ps).length+(opM op).length:=by unfold gj;rw[b0,ec]
  have R:=Cq hrm hf1 hf2;rw[←hML] at R;rw[d3] at hm hw hfs k hall hML R d1;refine mK hpb h32 hx hmx hm hall hr hw rfl hfs (fun N be cl ro co kn kb kc hN hNl h1 T0 T1 hf k=>Fu hpb h29 hx (b9 hmx hx) h1 T0 T1 d1 d4 hN hNl R h hrm hp (by rw[hN];exact i6 (b9 (f6 _ _) (j8 hML.symm)) n) ?_ hf (by lia) k) k
  induction op with
  |none=>exact .inl (by rw[hN];exact congrArg (n+ ·) hML.symm)
  |some k=>exact .inr ⟨113,_,rfl,by decide⟩
end
noncomputable def opK (inner t:List Nat):Nat:=inner.length+(match t with|[]=>0|_=>1)
noncomputable def cq (x:List Nat):Nat→List Gp→Fi→List V
 |n,[],.str ps _ inner t _=>[jx x bG ((x.drop n).take (gj ps (some (opK inner t))).length) .none n]
 |n,[],_=>[]
 |n,.br c::gs,f=>jx x [c] [c] .none n::cq x (n+1) gs f
 |n,.lo c::gs,f=>jx x bG [c] .none n::cq x (n+1) gs f
 |n,.run ps::gs,f=>jx x (ib ps none).1 (ae ps) (ib ps none).2 n::cq x (n+(ae ps).length) gs f
 |n,.sp _::gs,f=>cq x (n+1) gs f
 |n,.com cs::gs,f=>cq x (n+cs.length) gs f
noncomputable def cg:Nat→List Gp→Fi→List Nat
 |n,[],.str ps _ _ _ _=>cv n ps
 |n,[],_=>[]
 |n,.run ps::gs,f=>cv n ps++cg (n+(ae ps).length) gs f
 |n,.br _::gs,f=>cg (n+1) gs f
 |n,.lo _::gs,f=>cg (n+1) gs f
 |n,.sp _::gs,f=>cg (n+1) gs f
 |n,.com cs::gs,f=>cg (n+cs.length) gs f
theorem kI:∀(ps:List Pc) (n:Nat),2*(cv n ps).length≤(ae ps).count 34∧(cv n ps).length≤(ae ps).length:=by
 intro zz
 induction zz with
 |nil=>
  intro n;exact⟨f3 _,f3 _⟩
 |cons zp ps ih=>
  induction zp with
  |w c=>
   intro n;refine am (ih (n+1)) fun a b=>?_;show 2*(cv (n+1) ps).length≤(c::ae ps).count 34∧(cv (n+1) ps).length≤(c::ae ps).length;exact⟨b9 a (o7 ..),j1 b⟩
  |s i r=>
   intro n;refine am (ih (n+i.length+2)) fun a b=>?_;have e:(cv n (.s i r::ps)).length≤1+(cv (n+i.length+2) ps).length:=by
    induction r with
    |none=>show(n::cv _ ps).length≤_;exact j8 (l5 _ 1)
    |some o=>exact m7 _ 1
   have c1:(34::(i++[34])++ae ps).count 34=2+i.count 34+(ae ps).count 34:=by
    refine er y7 (er List.count_cons (er y7 ?_));exact congrArg (· +(ae ps).count 34) (l5 (i.count 34) 2)
   show 2*_≤(34::(i++[34])++ae ps).count 34∧_≤(34::(i++[34])++ae ps).length;refine er c1 (er b0 ?_);exact⟨b9 (l4 2 e) (by rw[Nat.mul_add];exact t7 (f6 2 _) a),b9 e (t7 (i9 (g6 _)) b)⟩
theorem gQ:∀(ps:List Pc) (n:Nat),∀y∈cv n ps,n≤y∧y<n+(ae ps).length:=by
 intro zz
 induction zz with
 |nil=>
  intro n y h;exact nomatch h
 |cons zp ps ih=>
  induction zp with
  |w c=>
   intro n y h;have:=ih (n+1) y h;exact⟨G6 this.1,F7 this.2 (t4 n _)⟩
  |s i r=>
   intro n y h;have hl:(ae (.s i r::ps)).length=i.length+2+(ae ps).length:=jz;have:y=n∨y∈cv (n+i.length+2) ps:=by
    induction r with
    |none=>exact d0.mp (show y∈n::cv (n+i.length+2) ps from h)
    |some o=>exact .inr h
   rcases this with rfl|h
   ·exact⟨f3 _,hl▸y8 (Nat.add_pos_left (w7 _) _)⟩
   ·have:=ih (n+i.length+2) y h;exact⟨b9 (b9 (f6 n i.length) (f6 _ 2)) this.1,F7 this.2 (by rw[hl,g5 n,g5 n])⟩
theorem uh (ps:List Pc):∀n:Nat,bf ps=none→cv n ps=[]:=by
 induction ps with
 |nil=>exact fun _ _=>rfl
 |cons p ps ih=>
  induction p with
  |w c=>exact fun n h=>ih (n+1) (l7.mp h)
  |s i r=>induction r with
   |none=>exact fun n h=>noS h.symm
   |some o=>exact fun n h=>ih _ (l7.mp h)
theorem oq (ps:List Pc):∀n e:Nat,bf ps=some e→n+e∈cv n ps∧∀y∈cv n ps,n+e≤y:=by
 induction ps with
 |nil=>exact fun n e h=>noS h
 |cons p ps ih=>
  intro n e h
  induction p with
  |w c=>
   refine aj (i8.mp (show(bf ps).map (1+ ·)=some e from h)) fun e' h' z2_=>?_;subst z2_;rw[←g5];exact ih (n+1) e' h'
  |s i r=>induction r with
   |none=>
    refine er (c7 h).symm ?_;exact⟨.head _,fun y hy=>(gQ _ n y hy).1⟩
   |some o=>
    refine aj (i8.mp (show(bf ps).map (i.length+2+ ·)=some e from h)) fun e' h' z2_=>?_;subst z2_;rw[←g5,←g5];exact ih (n+i.length+2) e' h'
theorem dj (g:Gp) (gs:List Gp) (f:Fi):bA n (g::gs) f=bA (n+g.txt.length) gs f:=by
 unfold bA;rw[oH,g5]
theorem kB:(∀y∈bA n gs f,n≤y)∧(bA n gs f).length≤1:=by
 unfold bA
 induction f with
 |ok=>exact⟨(fun y h=>nomatch h),g6 _⟩
 |block=>exact⟨fun y h=>by rw[j4.mp h];exact f6 _ _,f3 _⟩
 |bad=>exact⟨fun y h=>by rw[j4.mp h];exact f6 _ _,f3 _⟩
 |str=>exact⟨fun y h=>by rw[j4.mp h];exact b9 (f6 n _) (f6 _ _),f3 _⟩
theorem Hg (gs:List Gp):∀(n:Nat) (f:Fi),∀y∈cg n gs f,n≤y:=by
 induction gs with
 |nil=>
  intro n f y h
  induction f with
  |str ps=>exact(gQ ps n y h).1
  |_=>exact nomatch h
 |cons g gs ih=>
  intro n f y h
  induction g with
  |run ps=>exact(m8.mp h).elim (fun h=>(gQ ps n y h).1) fun h=>b9 (f6 ..) (ih _ f y h)
  |_=>exact b9 (f6 ..) (ih _ f y h)
def sX (o:Option Nat) (fs:List Nat):Prop:=match o with|none=>fs=[]|some e=>e∈fs∧∀y∈fs,e≤y
theorem rG:sX (some n) [n]:=⟨.head _,fun y h=>j8 (j4.mp h).symm⟩
theorem Kl (gs:List Gp):∀(n:Nat) (f:Fi),sX (cG n gs f) (bA n gs f++cg n gs f):=by
 induction gs with
 |nil=>
  intro n f
  induction f with
  |ok=>exact rfl
  |block=>exact rG
  |bad=>exact rG
  |str ps=>
   show sX (some (n+(bf ps).getD (ae ps).length)) ([n+(ae ps).length]++cv n ps);cases h:bf ps with
   |none=>rw[uh ps n h];exact rG
   |some e=>
    refine am (oq ps n e h) fun a b=>?_;refine⟨k8 _ a,fun y hy=>(m8.mp hy).elim (fun hy=>?_) (b y)⟩;refine er (j4.mp hy) ?_;exact B2 (gQ ps n _ a).2
 |cons g gs ih=>
  intro n f;rw[dj]
  induction g with
  |run ps=>
   show sX (match bf ps with|some e=>some (n+e)|none=>cG (n+(ae ps).length) gs f) (bA (n+(ae ps).length) gs f++(cv n ps++cg (n+(ae ps).length) gs f));cases h:bf ps with
   |none=>
    rw[uh ps n h,y1];exact ih _ f
   |some e=>
    refine am (oq ps n e h) fun a b=>?_;have c:=B2 (gQ ps n _ a).2;refine⟨k8 _ (A8 _ a),fun y hy=>(m8.mp hy).elim (fun hy=>b9 c (kB.1 y hy)) fun hy=>(m8.mp hy).elim (b y) fun hy=>b9 c (Hg gs _ f y hy)⟩
  |_=>exact ih _ f
theorem qv (a l:List Nat):l.count 34≤(a++l).count 34:=b9 (m7 _ _) (j8 y7.symm)
theorem DT (h:Tx l gs f):∀n,2*(cg n gs f).length≤l.count 34:=by
 induction h with
 |nil=>exact fun _=>g6 _
 | @sp c l gs f _ _ ih=>exact fun n=>b9 (ih _) (o7 ..)
 | @line cs l gs f _ _ _ ih=>
  intro n;exact b9 (ih _) (b9 (qv cs l) (b9 (o7 ..) (o7 ..)))
 | @block cs l gs f _ _ ih=>
  intro n;exact b9 (ih _) (b9 (qv cs l) (b9 (o7 ..) (o7 ..)))
 |blockO=>exact fun _=>g6 _
 |br _ _ _ ih=>exact fun n=>b9 (ih _) (o7 ..)
 |lo _ _ _ ih=>exact fun n=>b9 (ih _) (o7 ..)
 | @run ps l gs f hne _ _ _ ih=>
  intro n;have a:=(kI ps n).1;have b:=ih (n+(ae ps).length);show 2*(cv n ps++cg (n+(ae ps).length) gs f).length≤_;rw[b0,y7,Nat.mul_add];exact t7 a b
 | @runO ps tl inner t r _ _ _=>
  intro n;have a:=(kI ps n).1;show 2*(cv n ps).length≤_;rw[y7];exact b9 a (f6 _ _)
 |bad=>exact fun _=>g6 _
theorem yw (h:sX o fs) (hp:js.Perm (fs.map fun(k:Nat)=>(k:Int))) (hs:js.Pairwise (· ≤ ·)):match o with|none=>js=[]|some e=>∃r,js=(e:Int)::r:=by
 induction o with
 |none=>
  have:fs=[]:=h;subst this;exact List.Perm.eq_nil hp
 |some e=>
  refine am h fun h1 h2=>?_;have m:(e:Int)∈js:=hp.mem_iff.mpr (m5.mpr ⟨e,h1,rfl⟩)
  induction js with
  |nil=>cases m
  |cons j r=>
   refine⟨r,?_⟩;have a:(e:Int)≤j:=by
    refine aj (m5.mp (hp.mem_iff.mp (.head _))) fun y hy e2=>?_;exact e2▸n8.mpr (h2 y hy)
   have b:j≤e:=by
    rcases d0.mp m with z|z
    ·exact Int.le_of_eq z.symm
    ·exact(List.pairwise_cons.mp hs).1 _ z
   exact er (Int.le_antisymm b a) rfl
inductive spRead (ds:List V) (σ:Sto) (K:Kx) (KE:Ke):Prop
 |mk (x:List Nat) (gs:List Gp) (f:Fi) (h1:ds=[.str x]) (h2:x.length≤aH) (h3:x.count 34≤96) (h4:Tx x gs f) (h5:(cG 0 gs f=none→K (.tup [.lst (cq x 0 gs f),.lst []]) σ)) (h6:(∀e,cG 0 gs f=some e→∀due rest,K (.tup [.lst due,.lst (.int (e:Nat)::rest)]) σ)):spRead ds σ K KE
theorem xm (hp:∀p∈ps,p.Ok) (hl:ps≠[]∨¬fQ l):¬fQ (ae ps++l):=by
 induction ps with
 |nil=>exact hl.resolve_left fun z=>z rfl
 |cons p ps _=>induction p with
  |w c=>
   intro z;have:=(z c rfl).2;rw[d6.mpr (hp _ (.head _))] at this;exact noT this.symm
  |s i r=>exact fun z=>(z 34 rfl).1 rfl
theorem wj (h:Tx l gs f) (hl:fQ l):∀c,(bq gs f).head?=some c→wqs c=false:=by
 intro c hc;cases h with
 |nil=>cases hc
 |sp=>cases hc;rfl
 |line=>cases hc;rfl
 |block=>cases hc;rfl
 |blockO=>cases hc;rfl
 |br h=>cases hc;rcases h with rfl|rfl<;>rfl
 |lo=>cases hc;rfl
 | @run ps _ _ _ hne hp _ _=>
  exact absurd hl (xm hp (.inl hne))
 | @runO ps _ _ _ _ hp ho _=>
  exact absurd (ho.1▸hl) (xm hp (.inr fun z=>(z 34 rfl).1 rfl))
 |bad=>cases hc;rfl
theorem bc (g:Gp) (gs:List Gp) (f:Fi):bq (g::gs) f=g.marks++bq gs f:=by
 show(g.marks++gs.flatMap Gp.marks)++f.marks=_;rw[e9];rfl
theorem CG (h:Tx l gs f):(bq gs f).length≤l.length:=by
 have hr (k c:Nat):(rep k c).length=k:=u4 ..
 induction h with
 |nil=>exact f3 _
 |sp _ _ ih=>rw[bc];exact i9 ih
 | @line cs l gs f _ _ _ ih=>rw[bc,b0];show(rep _ 99).length+_≤_;rw[hr];simp only[c6,b0];lia
 | @block cs l gs f _ _ ih=>rw[bc,b0];show(rep _ 99).length+_≤_;rw[hr];simp only[c6,b0];lia
 |blockO=>show(rep _ 99).length≤_;rw[hr];exact f3 _
 |br _ _ _ ih=>rw[bc];exact i9 ih
 |lo _ _ _ ih=>rw[bc];exact i9 ih
 | @run ps l gs f _ _ _ _ ih=>rw[bc,b0,b0];show(aw ps).length+_≤_;rw[ec];exact i6 (by assumption) _
 | @runO ps tl inner t r _ ho _=>
  obtain⟨rfl,-⟩:=ho;show(aw ps++113::(rep inner.length 115++_)).length≤_;rw[b0,b0,ec,c6,c6,b0,b0,hr];cases t with
  |nil=>exact f3 _
  |cons a t=>simp only[c6,E9];lia
 |bad=>exact i9 (g6 _)
theorem yq (ps:List Pc) (tl inner t:List Nat) (r:Option (List Nat)):(Fi.str ps tl inner t r).marks=gj ps (some (opK inner t)):=by
 show aw ps++113::(rep inner.length 115++_)=aw ps++113::rep (opK inner t) 115;unfold opK rep;cases t with
 |nil=>rw[d7];rfl
 |cons a t=>rw[List.replicate_succ']
section
variable {kn kb:(Nat→V)→Sto→Prop} {K:Kx} {KE:(Nat→V)→Ke} {KE':Ke} {n b p N:Nat} {x:List Nat} {ms fs:List Nat} {due:List V} {en wd so va be cl ro co:V}
theorem vt (hpb:p≠b) (h32:Sp 32=spPlace) (hx:x.length≤aH):∀(k n:Nat),ms.drop n=rep k 99++rest→n+k≤x.length→Rd Sp σ b p x ms K KE Kn (n+k) fs due→Rd Sp σ b p x ms K KE Kn n fs due:=by
 intro zz
 induction zz with
 |zero=>
  intro n h hn k;exact k
 |succ k ih=>
  intro n h hn kk;refine nD hpb h32 hx (bV (show ms.drop n=99::(rep k 99++rest) from h)).1 (by lia) rfl ?_;exact ih (n+1) (bV (show ms.drop n=99::(rep k 99++rest) from h)).2.2 (by lia) (by rw[show n+1+k=n+(k+1) by exact x7 ..];exact kk)
theorem qJ (h:ms.drop n=[]) (k:∀en wd so va be cl ro co,Kn (fr (rdF x ms b p n en wd so va be cl ro co)) (rdS σ b p fs due)):Rd Sp σ b p x ms K KE Kn n fs due:=by
 intro _ _;have hn:ms.length≤n:=o9.mp h;refine⟨1,fun en wd so va be cl ro co=>fm ?_ (k ..)⟩;simp only[←(c9 (by lia):decide ((n:Int)<ms.length)=false)];exact et_cmp kz kg rfl
theorem tr (h:x.drop n=c::l):(x.drop n).take 1=[c]:=by rw[h];rfl
def RdL (Sp:Nat→aP) (σ:Sto) (b p:Nat) (x ms:List Nat) (K:Kx) (KE:(Nat→V)→Ke) (Kn:(Nat→V)→Sto→Prop) (l:List Nat) (gs:List Gp) (f:Fi):Prop:=∀(n:Nat) (A:List Nat) (due:List V),x.drop n=l→n≤x.length→ms.drop n=bq gs f→(∀y∈A,y<n)→
  (∀m en wd so va be cl ro co,Kn (fr (rdF x ms b p m en wd so va be cl ro co)) (rdS σ b p (bA n gs f++A++cg n gs f) (due++cq x n gs f)))→Rd Sp σ b p x ms K KE Kn n (bA n gs f++A) due
theorem Ft (hpb:p≠b) (h29:Sp 29=spOct) (h30:Sp 30=kZ) (h32:Sp 32=spPlace) (hx:x.length≤aH) (hmx:ms.length≤x.length) (ht:Tx l gs f):RdL Sp σ b p x ms K KE Kn l gs f:=by
 induction ht with
 |nil=>
  intro n A due h hn hm hA k;exact qJ hm fun en wd so va be cl ro co=>by
   have:=k n en wd so va be cl ro co;simp only[show cg n [] .ok=[] from rfl,show cq x n [] .ok=[] from rfl,d7,d7] at this;exact this
 | @sp c l gs f hc ht ih=>
  intro n A due h hn hm hA k;simp only[bc] at hm;obtain⟨m1,m2,m3⟩:=bV (show ms.drop n=32::bq gs f from hm);have q7:=af h;rw[dj] at k⊢;exact nD hpb h32 hx m1 q7.2.1 rfl (ih (n+1) A due q7.2.2 q7.2.1 m3 (fun y hy=>n9 (hA y hy)) k)
 | @line cs l gs f hc hl ht ih=>
  intro n A due h hn hm hA k;simp only[bc] at hm;have hlen:=bM h hn;have hr:(rep (59::59::cs).length 99).length=(59::59::cs).length:=u4 ..;have m3:=aT (show ms.drop n=rep (59::59::cs).length 99++bq gs f from hm);rw[hr] at m3;rw[dj] at k⊢;have hl2:n+(59::59::cs).length≤x.length:=by
   rw[show 59::59::(cs++l)=(59::59::cs)++l from rfl,b0] at hlen;lia
  exact vt hpb h32 hx _ n hm hl2 (ih _ A due (aT (a:=59::59::cs) h) hl2 m3 (fun y hy=>l3 (hA y hy) (f6 ..)) k)
 | @block cs l gs f hb ht ih=>
  intro n A due h hn hm hA k;rw[bc] at hm;have hlen:=bM h hn;have a3:=aT (a:=40::59::cs) h;have hr:(rep (40::59::cs).length 99).length=(40::59::cs).length:=u4 ..;have m3:=aT (show ms.drop n=rep (40::59::cs).length 99++bq gs f from hm);rw[hr] at m3;rw[dj] at k⊢;have hl2:n+(40::59::cs).length≤x.length:=by
   rw[show 40::59::(cs++l)=(40::59::cs)++l from rfl,b0] at hlen;lia
  exact vt hpb h32 hx _ n hm hl2 (ih _ A due a3 hl2 m3 (fun y hy=>l3 (hA y hy) (f6 ..)) k)
 | @blockO cs e hb he=>
  intro n A due h hn hm hA k;have hlen:=bM h hn;have hm:ms.drop n=rep (cs.length+2) 99++[]:=by rw[d7];exact hm
  have hr:(rep (cs.length+2) 99).length=cs.length+2:=u4 ..;have m3:=aT hm;rw[hr] at m3;refine vt hpb h32 hx _ n hm (by rw[c6,c6] at hlen;exact j8 (by assumption)) (qJ m3 fun en wd so va be cl ro co=>?_);have:=k (n+(cs.length+2)) en wd so va be cl ro co;rw[show cg n [] (.block cs)=[] from rfl,show cq x n [] (.block cs)=[] from rfl,d7,d7] at this;exact this
 | @br c l gs f hc hc' ht ih=>
  intro n A due h hn hm hA k;rw[bc] at hm;obtain⟨m1,m2,m3⟩:=bV (show ms.drop n=c::bq gs f from hm);have q7:=af h;rw[dj] at k⊢;have e1:[119,113,115].contains c=false:=by rcases hc with rfl|rfl<;>rfl
  have e2:[32,99,63].contains c=false:=by rcases hc with rfl|rfl<;>rfl
  have e3:[40,41].contains c=true:=by rcases hc with rfl|rfl<;>rfl
  refine nD hpb h32 hx m1 q7.2.1 e1 ?_;refine er e2 (er e3 (er (tr h) ?_));refine ih (n+1) A _ q7.2.2 q7.2.1 m3 (fun y hy=>n9 (hA y hy)) fun m en wd so va be cl ro co=>?_;have:=k m en wd so va be cl ro co;rw[show cq x n (.br c::gs) f=[jx x [c] [c] .none n]++cq x (n+1) gs f from rfl,←e9 due] at this;exact this
 | @lo c l gs f hc hc' ht ih=>
  intro n A due h hn hm hA k;rw[bc] at hm;obtain⟨m1,m2,m3⟩:=bV (show ms.drop n=44::bq gs f from hm);have q7:=af h;rw[dj] at k⊢;refine nD hpb h32 hx m1 q7.2.1 rfl ?_;refine er (tr h) ?_;refine ih (n+1) A _ q7.2.2 q7.2.1 m3 (fun y hy=>n9 (hA y hy)) fun m en wd so va be cl ro co=>?_;have:=k m en wd so va be cl ro co;simp only[show cq x n (.lo c::gs) f=[jx x bG [c] .none n]++cq x (n+1) gs f from rfl,←e9 due] at this;exact this
 | @run ps l gs f hne hp hl ht ih=>
  intro n A due h hn hm hA k;simp only[bc] at hm;have hlen:=bM h hn;rw[b0] at hlen;have hM:(gj ps none).length=(ae ps).length:=by
   unfold gj;rw[b0,ec];rfl
  have hm':ms.drop n=gj ps none++bq gs f:=by
   rw[hm];show aw ps++_=(aw ps++[])++_;rw[d7]
  have m3:=aT hm';rw[hM] at m3;rw[dj] at k⊢;have hb:=kI ps n;intro hd hf;refine AF hpb h29 h30 h32 hx hmx (.inl hne) h hm' hp (wj ht hl) (by rw[hM,h,z6]) (fun _=>rfl) (fun y hy=>?_) (fun z=>absurd rfl z) (by rw[b0,hM];lia) ?_ hd hf
  ·rcases m8.mp hy with hy|hy
   ·right;exact kB.1 y hy
   ·exact .inl (hA y hy)
  ·simp only[hM,e9];refine ih _ (A++cv n ps) _ (aT h) (by lia) m3 (fun y hy=>?_) fun m en wd so va be cl ro co=>?_
   ·rcases m8.mp hy with hy|hy
    ·exact l3 (hA y hy) (f6 ..)
    ·exact((gQ ps n) y hy).2
   ·have:=k m en wd so va be cl ro co;simp only[e9 due,←e9 _ A,e9 (_++A)];exact this
 | @runO ps tl inner t r hp ho hsc=>
  intro n A due h hn hm hA k;have hm':ms.drop n=gj ps (some (opK inner t))++[]:=by
   rw[hm,d7,←yq ps tl inner t r];rfl
  have hb:=kI ps n;have hM:(ae ps).length+1≤(gj ps (some (opK inner t))).length:=by
   unfold gj;simp only[b0,ec];exact i9 (f6 ..)
  have hF:bA n [] (.str ps tl inner t r)=[n+(ae ps).length]:=rfl;rw[hF] at k⊢;intro hd hf;rw[b0,e8] at hf;refine AF (op:=some (opK inner t)) hpb h29 h30 h32 hx hmx (.inr nofun) h hm' hp nofun rfl nofun (fun y hy=>?_) (fun _=>.head _) (by rw[b0,b0,e8];lia) ?_ hd (by rw[b0,e8];exact hf)
  ·rcases d0.mp hy with rfl|hy
   ·exact .inr (f3 _)
   ·exact .inl (hA y hy)
  ·exact qJ (aT hm') fun en wd so va be cl ro co=>k _ en wd so va be cl ro co
 | @bad c l hc=>
  intro n A due h hn hm hA k;have q7:=bV (show ms.drop n=63::[] from hm);refine nD hpb h32 hx q7.1 (af h).2.1 rfl (qJ q7.2.2 fun en wd so va be cl ro co=>?_);have:=k (n+1) en wd so va be cl ro co;simp only[show cg n [] (.bad c l)=[] from rfl,show cq x n [] (.bad c l)=[] from rfl,d7,d7] at this;exact this
theorem IH (h26:Sp 26=spMarks) (h29:Sp 29=spOct) (h30:Sp 30=kZ) (h31:Sp 31=qH) (h32:Sp 32=spPlace) {ds:List V} {K:Kx} {KE:Ke} (h:spRead ds σ K KE):Wlk Sp bK ds σ K KE:=by
 obtain⟨x,gs,f,rfl,hx,hq,ht,k1,k2⟩:=h;refine bk 13 ?_;show Sp 26 _ _ _ _;refine er h26 ?_;refine⟨x,gs,f,rfl,hx,ht,fun b hb=>?_⟩;show cS (bi [1,2] [.lst (chV (bq gs f)),.lref b] (fr ([V.str x]++List.replicate 13 V.unb))) fun m'=>vcS Sp gvL bK.aft1 m' (σ.put b (.list (bu (bA 0 gs f)))) (fun _ M1=>K .none M1) K (fun _ _=>False) (fun _ _=>False) (fun _=>KE);refine dG (L':=[.str x,.lst (chV (bq gs f)),.lref b,.unb,.unb,.unb,.unb,.unb,.unb,.unb,.unb,.unb,.unb,.unb]) rfl ?_;show Sp 31 _ _ _ _;refine er h31 ?_;refine⟨x,rfl,hx,g6 _,fun p hp=>⟨show 3≤100 by decide,?_⟩⟩;have npb:p≠b:=fun z=>by rw[z,ai] at hp;cases hp
 rw[aA _ _ npb] at hp;show cS (bi [3,4,5] [.lst (bu (ma x)),.lref p,.int (0:Nat)] (fr [.str x,.lst (chV (bq gs f)),.lref b,.unb,.unb,.unb,.unb,.unb,.unb,.unb,.unb,.unb,.unb,.unb])) fun m'=>vcS Sp gvL bK.aft2 m' ((σ.put b (.list (bu (bA 0 gs f)))).put p (.list [])) (fun _ M1=>K .none M1) K (fun _ _=>False) (fun _ _=>False) (fun _=>KE);refine dG (L':=rdF x (bq gs f) b p 0 .unb .unb .unb .unb .unb .unb .unb .unb) rfl ?_;have R:=Ft (Sp:=Sp) (σ:=σ) (x:=x) (ms:=bq gs f) (K:=K) (KE:=fun _=>KE) (Kn:=fun m σ=>vcS Sp gvL bK.aft m σ (fun _ M1=>K .none M1) K (fun _ _=>False) (fun _ _=>False) (fun _=>KE)) npb h29 h30 h32 hx (CG ht) ht 0 [] [] rfl (g6 _) rfl nofun (fun m en wd so va be cl ro co=>?_) (f3 _) (by
  rw[d7];exact kB.2)
 ·refine ar R fun f' hf'=>?_;refine dI ⟨f',?_⟩;have:=hf' .unb .unb .unb .unb .unb .unb .unb .unb;rw[d7] at this;exact this
 ·rw[d7];have E:=Kl gs 0 f;have hl:(bA 0 gs f++cg 0 gs f).length<64:=by
   have a:=DT ht 0;have c:=(kB (n:=0) (gs:=gs) (f:=f)).2;rw[b0];lia
  generalize bA 0 gs f++cg 0 gs f=fs at E hl⊢;refine xt (by show(cb _ (.lref b)).bind _=_;rw[eW (pN npb)];exact nY _) ⟨by rw[f7];exact hl,fun js hp' hs=>⟨show 2≤100 by decide,?_⟩⟩;have H:=yw E hp' hs;refine⟨.tup [.lst (cq x 0 gs f),.lst (js.map .int)],σ,fun a o ha=>?_,.tup (.cons (.lst (ai ..) hp (fw _)) (.cons (.same _) .nil)),?_⟩
  ·have q1:a≠b:=fun z=>by rw[z,hb] at ha;cases ha
   have q2:a≠p:=fun z=>by rw[z,hp] at ha;cases ha
   unfold rdS;rw[aA _ _ q2,aA _ _ q1];exact ha
  ·cases e:cG 0 gs f with
   |none=>
    rw[e] at H;replace H:js=[]:=H;refine er H ?_;exact k1 e
   |some j=>
    rw[e] at H;refine ar H fun r H=>?_;refine er H ?_;exact k2 j e _ _
end
noncomputable def sQ:V:=.tup [.str [41]]
noncomputable def ia (r c:Int):V:=.tup [.str [40],.int r,.int c]
noncomputable def Tk.P (t:Tk):Mine.V:=.tup [.str t.s,.str t.w,.int t.row,.int t.col]
mutual
noncomputable def Tr.flat:Tr→List Mine.V
 |.tok t=>[t.P]
 |.br r c l=>ia r c::(l.flat++[sQ])
noncomputable def TrL.flat:TrL→List Mine.V
 |.nil=>[]
 |.cons a r=>a.flat++r.flat
end
mutual
noncomputable def Tr.sz:Tr→Nat
 |.tok _=>1
 |.br _ _ l=>2+l.sz
noncomputable def TrL.sz:TrL→Nat
 |.nil=>0
 |.cons a r=>a.sz+r.sz
end
noncomputable def TrL.es:TrL→List (Option Tr)
 |.nil=>[]
 |.cons a r=>some a::r.es
noncomputable def eV:Option Tr→V|none=>.none|some a=>a.V
noncomputable def sT:Option Tr→List V|none=>[sQ]|some a=>a.flat
noncomputable def esz:Option Tr→Nat|none=>1|some a=>a.sz
noncomputable def gk (E:List (Option Tr)):Nat:=(E.map esz).sum
theorem Tr.sz_pos (a:Tr):0<a.sz:=by
 cases a with
 |tok t=>exact w7 0
 |br r c l=>exact l3 (by decide) (f6 2 _)
theorem xG (a:Option Tr):0<esz a:=by
 cases a with
 |none=>decide
 |some a=>exact a.sz_pos
theorem TrL.es_V:∀l:TrL,l.es.map eV=l.Vs
 |.nil=>rfl
 |.cons a r=>congrArg (a.V:: ·) (TrL.es_V r)
theorem TrL.es_flat:∀l:TrL,l.es.flatMap sT=l.flat
 |.nil=>rfl
 |.cons a r=>congrArg (a.flat++ ·) (TrL.es_flat r)
theorem TrL.es_sz:∀l:TrL,gk l.es=l.sz
 |.nil=>rfl
 |.cons a r=>congrArg (a.sz+ ·) (TrL.es_sz r)
theorem GH (a b:List (Option Tr)):gk (a++b)=gk a+gk b:=by
 unfold gk;exact er p0 (er List.sum_append rfl)
theorem vq:∀E:List (Option Tr),E.length≤gk E:=by
 intro zz
 induction zz with
 |nil=>
  exact f3 _
 |cons a E ih=>
  exact b9 (j8 (l5 _ 1)) (t7 (xG a) ih)
noncomputable def Aa:aP:=fun ds σ K KE=>∃l:TrL,ds=[.lst l.Vs]∧l.sz≤10*aH∧K (.lst l.flat) σ
theorem Aq:∀(l:TrL),∀v∈l.Vs,v.ok=true
 |.nil,v,h=>nomatch h
 |.cons a r,v,h=>(d0.mp h).elim (fun z=>z▸a.ok) (Aq r v)
section
variable {kn kb:(Nat→V)→Sto→Prop} {K:Kx} {KE:(Nat→V)→Ke} {KE':Ke} {n b p N:Nat} {x:List Nat}
theorem GC (he:Ev Sp gvL m σ e d σ) (hs:jl 3 d .none σ=some ys) (hl:jy d σ σ) (hok:∀v∈ys,v.ok=true) (hn:ys.length≤ah):Ev Sp gvL m σ (.comp false (.var i) .absent i 3 e .absent) (.lst ys) σ:=by
 have e1:ys.filterMap some=ys:=List.filterMap_some;have:=iU (Sp:=Sp) (gv:=gvL) (m:=m) (σ:=σ) (i:=i) (kind:=3) (e:=e) (e':=.absent) (cond:=.absent) (elt:=.var i) (f:=id) (g:=some) (l:=ys) he kz (by rw[List.map_id];exact hs) hl (fun v hv=>⟨true,kz,rfl,eL (cV _ _ _) (hok v hv)⟩) (by rw[e1];exact hn);rw[e1] at this;exact this
theorem AM (h:σ a=some (.list xs)):fZ σ .ne (.lref a) (.lst [])=some (!decide (xs=[])):=by
 show(kS σ (.lref a) fun xs=>if xs.length=0 then cF eqV xs [] else some false).map not=_;refine er (nC (eW h)) ?_;cases xs with
 |nil=>rfl
 |cons x xs=>rfl
end
noncomputable def bkF (s0:V) (f t:Nat) (s3:V):List V:=[s0,.lref f,.lref t,s3]
noncomputable def bkS (σ:Sto) (f t:Nat) (fd xs:List V):Sto:=(σ.put f (.list fd)).put t (.list xs)
theorem Ms:sT (some (.br r c l))=ia r c::(l.flat++[sQ]):=rfl
section
variable {kb:(Nat→V)→Sto→Prop} {KE:(Nat→V)→Ke} {f t:Nat} {s0 s3 d:V} {fd xs:List V}
theorem Iz:Ev Sp gvL (fr (bkF s0 f t s3)) (bkS σ f t fd (xs++[d])) (.pop (.var 2)) d (bkS σ f t fd xs):=by
 have:=qU (Sp:=Sp) (gv:=gvL) (m:=fr (bkF s0 f t s3)) (σ:=bkS σ f t fd (xs++[d])) (a:=.var 2) (p:=t) (ys:=xs) (v:=d) kz (ai ..);rw[bkS,aM] at this;exact this
theorem IA (hft:f≠t) (hfd:fd.length<ah) (he:Ev Sp gvL (fr (bkF s0 f t s3)) (bkS σ f t fd xs) e d (bkS σ f t fd xs)):Ev Sp gvL (fr (bkF s0 f t s3)) (bkS σ f t fd xs) (.append (.var 1) e) .none (bkS σ f t (fd++[d]) xs):=by
 have g:bkS σ f t fd xs f=some (.list fd):=(aA _ _ hft).trans (ai ..);have:=bO (Sp:=Sp) (gv:=gvL) (m:=fr (bkF s0 f t s3)) (o:=.var 1) kz g he g hfd;rw[show(bkS σ f t fd xs).put f _=_ from(gw hft.symm).trans (congrArg (Sto.put · t _) (aM ..))] at this;exact this
theorem Hd (hft:f≠t) (hfd:fd.length<ah) (k:Kn (fr (bkF s0 f t .none)) (bkS σ f t (fd++[sQ]) xs)):vcS Sp gvL bj.whB (fr (bkF s0 f t s3)) (bkS σ f t fd (xs++[.none])) Kn Kr kb Kc KE:=by
 refine ak Iz (L':=bkF s0 f t .none) rfl rfl ?_;exact aD (t:=true) kz (fun _=>aE (IA hft hfd (aK kz rfl)) k) nofun
theorem KS (hft:f≠t) (hfd:fd.length<ah) {tk:Tk} (k:Kn (fr (bkF s0 f t tk.V)) (bkS σ f t (fd++[tk.P]) xs)):vcS Sp gvL bj.whB (fr (bkF s0 f t s3)) (bkS σ f t fd (xs++[tk.V])) Kn Kr kb Kc KE:=by
 refine ak Iz (L':=bkF s0 f t tk.V) rfl rfl ?_;refine aD (t:=false) (et_cmp kz kz rfl) nofun fun _=>?_;refine aD (t:=false) kz nofun fun _=>?_;exact aE (IA hft hfd (aK kz rfl)) k
theorem Mv (hft:f≠t) (hfd:fd.length<ah) (hv:∀v∈vs,v.ok=true) (hl:xs.length+1+vs.length≤ah) (k:Kn (fr (bkF s0 f t (.fobj 2 (brF (.lst vs) r c)))) (bkS σ f t (fd++[ia r c]) (xs++[.none]++vs.reverse))):
  vcS Sp gvL bj.whB (fr (bkF s0 f t s3)) (bkS σ f t fd (xs++[.fobj 2 (brF (.lst vs) r c)])) Kn Kr kb Kc KE:=by
 refine ak Iz (L':=bkF s0 f t (.fobj 2 (brF (.lst vs) r c))) rfl rfl ?_;refine aD (t:=false) (et_cmp kz kz rfl) nofun fun _=>?_;refine aD (t:=true) kz (fun _=>?_) nofun;refine aE (IA hft hfd (aK kz rfl)) ?_;have A2:=bO (Sp:=Sp) (gv:=gvL) (m:=fr (bkF s0 f t (.fobj 2 (brF (.lst vs) r c)))) (σ:=bkS σ f t (fd++[ia r c]) xs) (o:=.var 2) (e:=.lit .none) (d:=.none) kz (ai ..) kz (ai ..) (b9 (f6 _ _) hl);rw[show(bkS σ f t (fd++[ia r c]) xs).put t _=bkS σ f t (fd++[ia r c]) (xs++[.none]) from aM ..] at A2;refine aE A2 ?_;have A3:=tQ (Sp:=Sp) (σ:=bkS σ f t (fd++[ia r c]) (xs++[.none])) (m:=fr (bkF s0 f t (.fobj 2 (brF (.lst vs) r c)))) (o:=.var 2) kz (ai ..) (GC (i:=5) (e:=.attr (.var 3) 7) (ys:=vs.reverse) (iF kz rfl rfl) rfl trivial (fun v h=>hv v (z5.mp h)) (by rw[r7];exact b9 (m7 _ _) hl)) (ai ..) (by rw[b0,r7,e8];exact hl);rw[show(bkS σ f t (fd++[ia r c]) (xs++[.none])).put t _=_ from aM ..] at A3;exact aE A3 k
theorem Br (k:Kn (fr (bkF s0 f t s3)) (bkS σ f t fd [])):∃n,Wh Sp bj.whC bj.whB Kr KE Kn n (fr (bkF s0 f t s3)) (bkS σ f t fd []):=
 ⟨1,fm (et_cmp kz (ba kz) (AM (ai ..))) k⟩
theorem Iy:Et Sp gvL (fr (bkF s0 f t s3)) (bkS σ f t fd (xs++[d])) bj.whC true:=by
 have:=AM (σ:=bkS σ f t fd (xs++[d])) (a:=t) (ai ..);rw[c9 (H0 _ (List.cons_ne_nil _ _))] at this;exact et_cmp kz (ba kz) this
theorem DR (hft:f≠t):∀(N:Nat) (E:List (Option Tr)) (fd:List V) (s3:V),gk E≤N→fd.length+gk E≤10*aH→(∀s3,Kn (fr (bkF s0 f t s3)) (bkS σ f t (fd++E.flatMap sT) []))→
  ∃n,Wh Sp bj.whC bj.whB Kr KE Kn n (fr (bkF s0 f t s3)) (bkS σ f t fd (E.map eV).reverse):=by
 intro N
 induction N with
 |zero=>
  intro E fd s3 hE hl k
  induction E with
  |nil=>rw[show([]:List (Option Tr)).flatMap sT=[] from rfl,d7] at k;exact Br (k s3)
  |cons a E _=>exact absurd (b9 (f6 _ _) (show esz a+gk E≤0 from hE)) (Nat.not_le.mpr (xG a))
 |succ N ih=>
  intro E fd s3 hE hl k
  induction E with
  |nil=>rw[show([]:List (Option Tr)).flatMap sT=[] from rfl,d7] at k;exact Br (k s3)
  |cons a E _=>
   replace hE:esz a+gk E≤N+1:=hE;replace hl:fd.length+(esz a+gk E)≤10*aH:=hl;have hfd:fd.length<ah:=j0 (b9 (f6 _ _) hl) (by decide);have go (E':List (Option Tr)) (x s3:V) (hS:gk E'+1=esz a+gk E):=ih E' (fd++[x]) s3 (Nat.le_of_succ_le_succ (b9 (j8 hS) hE)) (by rw[b0,e8,g5,l5 1,hS];exact hl);refine er j3 (er l6 ?_);rw[List.flatMap_cons] at k
   induction a with
   |none=>
    obtain⟨n,hn⟩:=go E sQ .none (l5 _ 1) fun s3=>by rw[e9];exact k s3
    exact⟨n+1,aL Iy (Hd hft hfd hn)⟩
   |some a=>cases a with
    |tok tk=>
     obtain⟨n,hn⟩:=go E tk.P tk.V (l5 _ 1) fun s3=>by rw[e9];exact k s3
     exact⟨n+1,aL Iy (KS hft hfd hn)⟩
    |br r c l=>
     have lz:=l.es_sz;have le:=vq l.es;have lV:l.Vs.length=l.es.length:=by rw[←l.es_V,f7]
     have hE2:gk (l.es++none::E)=l.sz+(1+gk E):=by rw[GH,lz];rfl
     have hS:gk (l.es++none::E)+1=2+l.sz+gk E:=by rw[hE2,Nat.add_left_comm,x7,g5 2]
     obtain⟨n,hn⟩:=go (l.es++none::E) (ia r c) (.fobj 2 (brF (.lst l.Vs) r c)) hS fun s3=>by
      rw[List.flatMap_append,l.es_flat,e9 fd];have:=k s3;rw[Ms,u6,e9 l.flat] at this;exact this
     rw[p0,j3,l.es_V,List.reverse_append,l6] at hn;refine⟨n+1,aL Iy (Mv hft hfd (fun v hv=>Aq l v hv) ?_ hn)⟩;rw[r7,f7,lV];refine b9 (t7 (i9 (vq E)) (lz▸le)) ?_;rw[show gk E+1+l.sz=gk (l.es++none::E) by rw[hE2,l5,l5 1]];exact b9 (Nat.le_succ _) (b9 (j8 hS) (b9 (m7 _ fd.length) (b9 hl (by decide))))
end
section
variable {kn kb:(Nat→V)→Sto→Prop} {K:Kx} {KE:(Nat→V)→Ke} {KE':Ke} {n b p N:Nat} {x:List Nat}
theorem LM {ds:List V} {K:Kx} {KE:Ke} (h:Aa ds σ K KE):Wlk Sp bj ds σ K KE:=by
 refine eQ h fun l z1_ hl k=>?_;subst z1_;refine bk 3 ?_;have lz:=l.es_sz;have le:=vq l.es;have lV:l.Vs.length=l.es.length:=by rw[←l.es_V,f7]
 refine⟨g6 _,fun f hf=>?_⟩;show vcX Sp gvL (.comp true (.var 4) .absent 4 3 (.var 0) .absent) (fr ([V.lst l.Vs]++List.replicate 3 V.unb)) (σ.put f (.list [])) _ _;refine Bo (Sp:=Sp) (gv:=gvL) (elt:=.var 4) (cond:=.absent) (f:=id) (g:=some) (live:=fun _=>True) trivial (l.Vs.reverse) [] (fun v hv=>⟨true,kz,rfl,eL (cV _ _ _) (Aq l v (z5.mp hv))⟩) ?_|>fun h=>by
  rw[List.map_id] at h;exact h
 rw[List.filterMap_some,y1];refine⟨by rw[r7,lV];exact b9 le (lz▸b9 hl (by decide)),fun t ht=>⟨show 2≤100 by decide,?_⟩⟩;have hft:f≠t:=fun z=>by rw[←z,ai] at ht;cases ht
 rw[aA _ _ hft.symm] at ht;show cS (bi [1,2] [.lref f,.lref t] (fr [.lst l.Vs,.unb,.unb,.unb])) fun m'=>vcS Sp gvL bj.aft1 m' ((σ.put f (.list [])).put t (.list l.Vs.reverse)) (fun _ M1=>K .none M1) K (fun _ _=>False) (fun _ _=>False) (fun _=>KE);refine dG (L':=[.lst l.Vs,.lref f,.lref t,.unb]) rfl ?_;refine er l.es_V.symm ?_;refine dI (DR hft (gk l.es) l.es [] .unb (f3 _) (by rw[lz];exact b9 (j8 (C9 _)) hl) fun s3=>?_);rw[l.es_flat,y1];refine bB (gf kz (fun a o ha=>?_) (.lst ((aA _ _ hft).trans (ai ..)) hf (fw _))) k;have q1:a≠f:=fun z=>by rw[z,hf] at ha;cases ha
 have q2:a≠t:=fun z=>by rw[z,ht] at ha;cases ha
 exact(aA _ _ q2).trans ((aA _ _ q1).trans ha)
end
section
set_option backward.match.sparseCases false
noncomputable def Tk.D (t:Tk):Mine.V:=.tup [.str t.s,.str t.w,(match decide (t.s=dw)||decide (t.s=cf) with|true=>t.v|false=>.none),.int t.row,.int t.col]
noncomputable def pT (t:Tk):V:=match decide (t.s=[40]) with|true=>ia t.row t.col|false=>match decide (t.s=[41]) with|true=>sQ|false=>t.P
noncomputable def dW:List Tk→List (Int×Int)→Option (Int×Int)×List (Int×Int)
 |[],st=>(none,st)
 |t::ts,st=>match decide (t.s=[40]) with
  |true=>dW ts ((t.row,t.col)::st)
  |false=>match decide (t.s=[41]) with
   |true=>(match st with
    |[]=>(some (t.row,t.col),[])
    |_::st=>dW ts st)
   |false=>dW ts st
theorem vU (t:Tk) (ts:List Tk) (st:List (Int×Int)):dW (t::ts) st=match decide (t.s=[40]) with|true=>dW ts ((t.row,t.col)::st)|false=>match decide (t.s=[41]) with|true=>(match st with|[]=>(some (t.row,t.col),[])|_::st=>dW ts st)|false=>dW ts st:=rfl
noncomputable def plS (stk:List (Int×Int×TrL)):List (Int×Int):=stk.map fun q=>(q.1,q.2.1)
noncomputable def jp (it:TrL):List (Int×Int×TrL)→List V
 |[]=>it.flat
 |(r,c,l)::s=>jp it s++(ia r c::l.flat)
noncomputable def szS (it:TrL):List (Int×Int×TrL)→Nat
 |[]=>it.sz
 |(_,_,l)::s=>szS it s+2+l.sz
theorem iZ:∀(l:TrL) (a:Tr),(l.snoc a).flat=l.flat++a.flat∧(l.snoc a).sz=l.sz+a.sz
 |.nil,a=>by
  unfold TrL.snoc TrL.flat TrL.sz TrL.flat TrL.sz;exact⟨by rw[d7];rfl,by lia⟩
 |.cons b r,a=>by
  refine am (iZ r a) fun h1 h2=>?_;unfold TrL.snoc TrL.flat TrL.sz;exact⟨by rw[h1,e9],by rw[h2];lia⟩
theorem uk (stk:List (Int×Int×TrL)) (it:TrL) (a:Tr):jp (dq stk it a).2 (dq stk it a).1=jp it stk++a.flat∧szS (dq stk it a).2 (dq stk it a).1=szS it stk+a.sz∧plS (dq stk it a).1=plS stk:=by
 induction stk with
 |nil=>exact⟨(iZ it a).1,(iZ it a).2,rfl⟩
 |cons q s=>
  obtain⟨r,c,l⟩:=q;refine am (iZ l a) fun h1 h2=>?_;refine⟨?_,?_,rfl⟩
  ·show jp it s++(ia r c::(l.snoc a).flat)=jp it s++(ia r c::l.flat)++a.flat;rw[h1,e9];rfl
  ·show szS it s+2+(l.snoc a).sz=szS it s+2+l.sz+a.sz;rw[h2];lia
def Ac (ts:List Tk) (stk:List (Int×Int×TrL)) (it:TrL):Option (Int×Int)×List (Int×Int)→Prop
 |(some p,_)=>cH ts stk it= .error p
 |(none,[])=>∃l,cH ts stk it= .ok l∧l.flat=jp it stk++ts.map pT∧l.sz≤szS it stk+2*ts.length
 |(none,q::_)=>cH ts stk it= .error q
theorem jF (e:cH (t::ts) stk it=cH ts stk' it') (ef:jp it' stk'=jp it stk++[pT t]) (es:szS it' stk'≤szS it stk+2) (h:Ac ts stk' it' o):Ac (t::ts) stk it o:=by
 obtain⟨ex,st⟩:=o
 induction ex with
 |some p=>exact e.trans h
 |none=>
  induction st with
  |cons q st=>exact e.trans h
  |nil=>
   refine eQ h fun l h1 h2 h3=>?_;refine⟨l,e.trans h1,?_,?_⟩
   ·rw[h2,ef,e9];rfl
   ·rw[c6];lia
theorem jb:∀(ts:List Tk) (stk:List (Int×Int×TrL)) (it:TrL),Ac ts stk it (dW ts (plS stk))
 |[],[],it=>⟨it,rfl,(d7 _).symm,f3 _⟩
 |[],(r,c,l)::s,it=>rfl
 |t::ts,stk,it=>by
  cases h1:decide (t.s=[40]) with
  |true=>
   have e1:dW (t::ts) (plS stk)=dW ts (plS ((t.row,t.col,.nil)::stk)):=by
    show(match decide (t.s=[40]) with|true=>_|false=>_)=_;rw[h1];rfl
   refine er e1 ?_;refine jF (stk':=(t.row,t.col,.nil)::stk) (it':=it) ?_ ?_ ?_ (jb ts _ it)
   ·show(match decide (t.s=[40]) with|true=>_|false=>_)=_;exact er h1 rfl
   ·show jp it stk++(ia t.row t.col::TrL.flat .nil)=_;unfold pT TrL.flat;exact er h1 rfl
   ·show szS it stk+2+TrL.sz .nil≤_;unfold TrL.sz;lia
  |false=>
   cases h2:decide (t.s=[41]) with
   |true=>
    cases stk with
    |nil=>
     have e1:dW (t::ts) (plS [])=(some (t.row,t.col),[]):=by
      show(match decide (t.s=[40]) with|true=>_|false=>_)=_;refine er h1 ?_;show(match decide (t.s=[41]) with|true=>_|false=>_)=_;rw[h2];rfl
     refine er e1 ?_;show(match decide (t.s=[40]) with|true=>_|false=>_)=_;refine er h1 ?_;show(match decide (t.s=[41]) with|true=>_|false=>_)=_;exact er h2 rfl
    |cons q s=>
     obtain⟨r,c,l⟩:=q;refine cQ (uk s it (.br r c l)) fun a1 a2 a3=>?_;have e1:dW (t::ts) (plS ((r,c,l)::s))=dW ts (plS (dq s it (.br r c l)).1):=by
      refine er a3 ?_;show(match decide (t.s=[40]) with|true=>_|false=>_)=_;refine er h1 ?_;show(match decide (t.s=[41]) with|true=>_|false=>_)=_;rw[h2];rfl
     refine er e1 ?_;refine jF ?_ ?_ ?_ (jb ts _ (dq s it (.br r c l)).2)
     ·show(match decide (t.s=[40]) with|true=>_|false=>_)=_;refine er h1 ?_;show(match decide (t.s=[41]) with|true=>_|false=>_)=_;exact er h2 rfl
     ·refine er a1 ?_;unfold pT Tr.flat;refine er h1 (er h2 ?_);show _=jp it s++(ia r c::l.flat)++[sQ];rw[e9];rfl
     ·refine er a2 ?_;show szS it s+Tr.sz (.br r c l)≤szS it s+2+l.sz+2;unfold Tr.sz;lia
   |false=>
    refine cQ (uk stk it (.tok t)) fun a1 a2 a3=>?_;have e1:dW (t::ts) (plS stk)=dW ts (plS (dq stk it (.tok t)).1):=by
     refine er a3 ?_;show(match decide (t.s=[40]) with|true=>_|false=>_)=_;refine er h1 ?_;show(match decide (t.s=[41]) with|true=>_|false=>_)=_;exact er h2 rfl
    refine er e1 ?_;refine jF ?_ ?_ ?_ (jb ts _ (dq stk it (.tok t)).2)
    ·show(match decide (t.s=[40]) with|true=>_|false=>_)=_;refine er h1 ?_;show(match decide (t.s=[41]) with|true=>_|false=>_)=_;exact er h2 rfl
    ·refine er a1 ?_;unfold pT Tr.flat;exact er h1 (er h2 rfl)
    ·refine er a2 ?_;unfold Tr.sz;lia
theorem rH (s:List Nat):eq0 (.str s) (.str s)=some true:=congrArg some (f9 rfl)
theorem gN (i:Int):eq0 (.int i) (.int i)=some true:=congrArg some (f9 rfl)
theorem cU (h:f a a=some true) (h':cF f l l=some true):cF f (a::l) (a::l)=some true:=by
 show(match f a a,cF f l l with|some a,some b=>some (a&&b)|_,_=>none)=_;rw[h,h'];rfl
theorem sZ (h:∀v∈l,eqV v v=some true):cF eqV l l=some true:=by
 induction l with
 |nil=>rfl
 |cons a l ih=>exact cU (h a (.head _)) (ih fun v hv=>h v (.tail _ hv))
theorem Bu (t:Tk):eqV t.P t.P=some true:=by
 show cF eq0 [.str t.s,.str t.w,.int t.row,.int t.col] [.str t.s,.str t.w,.int t.row,.int t.col]=some true;exact cU (rH _) (cU (rH _) (cU (gN _) (cU (gN _) rfl)))
theorem Cu (r c:Int):eqV (ia r c) (ia r c)=some true:=by
 show cF eq0 [.str [40],.int r,.int c] [.str [40],.int r,.int c]=some true;exact cU (rH _) (cU (gN _) (cU (gN _) rfl))
theorem FG (t:Tk):eqV (pT t) (pT t)=some true:=by
 unfold pT
 split
 ·exact Cu ..
 ·split
  ·rfl
  ·exact Bu t
theorem mL (r c:Int):eqV (plV r c) (plV r c)=some true:=by
 show cF eq0 [.int r,.int c] [.int r,.int c]=some true;exact cU (gN _) (cU (gN _) rfl)
noncomputable def plP (p:Int×Int):V:=plV p.1 p.2
theorem qx:∀st:List (Int×Int),p∈st→eP (plP p) (st.map plP)=some true
 |q::st,h=>by
  have B:∀st:List (Int×Int),∃b,eP (plP p) (st.map plP)=some b:=by
   intro st
   induction st with
   |nil=>exact⟨_,rfl⟩
   |cons q st ih=>
    refine ar ih fun b hb=>?_;refine⟨decide (q.1=p.1)&&(decide (q.2=p.2)&&true)||b,?_⟩;show(match eqV (plP q) (plP p),eP (plP p) (st.map plP) with|some a,some b=>some (a||b)|_,_=>none)=_;rw[hb];rfl
  show(match eqV (plP q) (plP p),eP (plP p) (st.map plP) with|some a,some b=>some (a||b)|_,_=>none)=_;rcases d0.mp h with rfl|h
  ·refine ar (B st) fun b hb=>?_;refine er (show eqV (plP p) (plP p)=some true from mL ..) ?_;rw[hb];rfl
  ·refine er (qx st h) ?_;show some ((decide (q.1=p.1)&&(decide (q.2=p.2)&&true))||true)=_;rw[K3]
section
variable {kn kb:(Nat→V)→Sto→Prop} {K:Kx} {KE:(Nat→V)→Ke} {KE':Ke} {n b p N:Nat} {x:List Nat}
theorem Bh (h:σ a=some (.list xs)):fZ σ .eq (.lref a) (.lst [])=some (decide (xs=[])):=by
 show(kS σ (.lref a) fun xs=>if xs.length=0 then cF eqV xs [] else some false)=_;refine er (nC (eW h)) ?_;cases xs with
 |nil=>rfl
 |cons x xs=>rfl
noncomputable def exV:Option (Int×Int)→V|none=>.none|some p=>plP p
theorem FS (hoq:o≠q):∀(ts:List Tk) (st:List (Int×Int)) (one:V),st.length+ts.length≤aH→
  (∀one,Kn (fr [s0,s1,s2,.lref o,.lref q,exV (dW ts st).1,one,told]) ((σ.put o (.list ((dW ts st).2.map plP).reverse)).put q (.list [])))→
  fY 6 (fun _=>True) (fun m σ kn kb=>vcS Sp gvL fT.forB m σ kn Kr kb kn KE) Kn (ts.map Tk.D) (fr [s0,s1,s2,.lref o,.lref q,.none,one,told]) ((σ.put o (.list (st.map plP).reverse)).put q (.list [])):=by
 intro zz
 induction zz with
 |nil=>
  intro st one hl k;exact k one
 |cons t ts ih=>
  intro st one hl k;have co (xs:List V):((σ.put o (.list xs)).put q (.list [])) o=some (.list xs):=by rw[aA _ _ hoq,ai]
  have po (xs ys:List V):((σ.put o (.list xs)).put q (.list [])).put o (.list ys)=(σ.put o (.list ys)).put q (.list []):=by rw[gw hoq.symm,aM]
  have ht:=io;rw[c6] at hl;refine er j3 ?_
  first|rw[bx]|rw[bH]
  refine er (bh rfl rfl) ?_;rw[vU] at k;refine aD (t:=decide (t.s=[40])) (et_cmp kz kz rfl) (fun e=>?_) fun e=>?_
  ·rw[e] at k;have A:=bO (Sp:=Sp) (gv:=gvL) (m:=fr [s0,s1,s2,.lref o,.lref q,.none,t.D,told]) (o:=.var 3) (e:=.tup (.cons (.sub (.var 6) (.lit (.int 3))) (.cons (.sub (.var 6) (.lit (.int 4))) .nil))) (d:=plP (t.row,t.col)) kz (co (st.map plP).reverse) (aK kz rfl) (co _) (by rw[r7,f7];lia);rw[po,←l6] at A;exact aE A ⟨trivial,ih ((t.row,t.col)::st) t.D (by rw[c6];lia) k⟩
  ·rw[e] at k;have E:Et Sp gvL (fr [s0,s1,s2,.lref o,.lref q,.none,t.D,told]) ((σ.put o (.list (st.map plP).reverse)).put q (.list [])) (.cmp .eq (.sub (.var 6) (.lit (.int 0))) (.lit (.str [41]))) (decide (t.s=[41])):=et_cmp kz kz rfl;refine aD (et_and E fun _=>et_cmp kz (ba kz) (Bh (co _))) (fun e2=>?_) fun e2=>?_
   ·refine am (d8.mp e2) fun e3 e4=>?_;rw[e3] at k
    induction st with
    |cons p st=>
     have:=c8 e4;rw[j3,l6] at this;exact absurd this (H0 _ (List.cons_ne_nil _ _))
    |nil=>
     exact ak (d:=plP (t.row,t.col)) (L':=[s0,s1,s2,.lref o,.lref q,plP (t.row,t.col),t.D,told]) (aK kz rfl) rfl rfl (k t.D)
   ·refine aV E (fun e3=>?_) fun e3=>?_
    ·rw[e3] at k e2
     induction st with
     |nil=>cases e2
     |cons p st=>
      have A:=qU (Sp:=Sp) (gv:=gvL) (m:=fr [s0,s1,s2,.lref o,.lref q,.none,t.D,told]) (σ:=(σ.put o (.list ((p::st).map plP).reverse)).put q (.list [])) (a:=.var 3) (ys:=(st.map plP).reverse) (v:=plP p) kz (by rw[co,j3,l6]);rw[po] at A;exact aE A ⟨trivial,ih st t.D (by rw[c6] at hl;lia) k⟩
    ·rw[e3] at k;exact⟨trivial,ih st t.D (by lia) k⟩
theorem FT:∀(ts:List Tk) (pl:List V) (one:V),pl.length+ts.length≤aH→(∀one,Kn (fr [s0,s1,s2,s3,.lref q,s5,one,told]) (σ.put q (.list (pl++ts.map pT))))→
  fY 6 (fun _=>True) (fun m σ kn kb=>vcS Sp gvL fT.aft3.forB m σ kn Kr kb kn KE) Kn (ts.map Tk.D) (fr [s0,s1,s2,s3,.lref q,s5,one,told]) (σ.put q (.list pl)):=by
 intro zz
 induction zz with
 |nil=>
  intro pl one hl k;rw[show([]:List Tk).map pT=[] from rfl,d7] at k;exact k one
 |cons t ts ih=>
  intro pl one hl k;have ht:=io;rw[c6] at hl;refine er j3 ?_
  first|rw[bx]|rw[bH]
  refine er (bh rfl rfl) ?_;have A {d:V} {e:X} (he:∀σ,Ev Sp gvL (fr [s0,s1,s2,s3,.lref q,s5,t.D,told]) σ e d σ):Ev Sp gvL (fr [s0,s1,s2,s3,.lref q,s5,t.D,told]) (σ.put q (.list pl)) (.append (.var 4) e) .none (σ.put q (.list (pl++[d]))):=by
   have:=bO (Sp:=Sp) (gv:=gvL) (m:=fr [s0,s1,s2,s3,.lref q,s5,t.D,told]) (σ:=σ.put q (.list pl)) (o:=.var 4) kz (ai ..) (he _) (ai ..) (by lia);rw[aM] at this;exact this
  have I (d:V) (e:pT t=d):=ih (pl++[d]) t.D (by rw[b0,e8];lia) (fun one=>by
   have:=k one;rw[j3,e,show pl++d::ts.map pT=pl++[d]++ts.map pT by simp] at this;exact this)
  refine aD (t:=decide (t.s=[41])) (et_cmp kz kz rfl) (fun e=>?_) fun e=>?_
  ·have:pT t=sQ:=by
    unfold pT;have e':=c8 e;exact er e (er (c9 (by rw[e'];decide)) rfl)
   exact aE (A fun _=>aK kz rfl) ⟨trivial,I _ this⟩
  ·refine aD (t:=decide (t.s=[40])) (et_cmp kz kz rfl) (fun e2=>?_) fun e2=>?_
   ·have:pT t=ia t.row t.col:=by unfold pT;rw[e2]
    exact aE (A fun _=>aK kz rfl) ⟨trivial,I _ this⟩
   ·have:pT t=t.P:=by unfold pT;rw[e2,e]
    exact aE (A fun _=>aK kz rfl) ⟨trivial,I _ this⟩
end
end
inductive spLawTrees (ds:List V) (σ:Sto) (K:Kx) (KE:Ke):Prop
 |mk (x:List Nat) (gs:List Gp) (f:Fi) (h1:ds=[.str x,.lst ((eC x 0 gs).map Tk.D)]) (h2:x.length≤aH) (h3:Tx x gs f) (h4:cG 0 gs f=none) (h5:∀M1,K (.bool true) M1):spLawTrees ds σ K KE
inductive spRefused (ds:List V) (σ:Sto) (K:Kx) (KE:Ke):Prop
 |mk (x:List Nat) (gs:List Gp) (f:Fi) (e:Nat) (t:Bool) (h1:ds=[.str x,.int e,.bool t]) (h2:x.length≤aH) (h3:Tx x gs f) (h4:cG 0 gs f=some e) (h5:∀M1,K (.bool true) M1):spRefused ds σ K KE
theorem ui {ps:List Pc} {e:Nat} (h:bf ps=some e):e<(ae ps).length:=by
 have:=(gQ ps 0 _ (oq ps 0 e h).1).2;lia
theorem Km {l:List Nat} {gs:List Gp} {f:Fi} (h:Tx l gs f):∀n e,cG n gs f=some e→e<n+l.length:=by
 induction h with
 |nil=>exact nofun
 | @sp c l gs f _ _ ih=>intro n e he;have:=ih (n+1) e he;rw[c6];lia
 | @line cs l gs f _ _ _ ih=>intro n e he;have:=ih (n+(59::59::cs).length) e he;simp only[c6,b0] at this⊢;lia
 | @block cs l gs f _ _ ih=>intro n e he;have:=ih (n+(40::59::cs).length) e he;simp only[c6,b0] at this⊢;lia
 | @blockO cs=>intro n e he;cases he;rw[c6];lia
 | @br c l gs f _ _ _ ih=>intro n e he;have:=ih (n+1) e he;rw[c6];lia
 | @lo c l gs f _ _ _ ih=>intro n e he;have:=ih (n+1) e he;rw[c6];lia
 | @run ps l gs f _ _ _ _ ih=>
  intro n e he;refine er b0 ?_;have he:(match bf ps with|some e=>some (n+e)|none=>cG (n+(ae ps).length) gs f)=some e:=he;cases hb:bf ps with
  |none=>
   rw[hb] at he;have:=ih _ e he;lia
  |some j=>
   rw[hb] at he;cases he;have:=ui hb;lia
 | @runO ps tl inner t r _ ho _=>
  intro n e he;cases he;refine er b0 (er ho.1 (er c6 ?_));cases hb:bf ps with
  |none=>show n+(ae ps).length<_;lia
  |some j=>have:=ui hb;show n+j<_;lia
 | @bad c l _=>intro n e he;cases he;rw[c6];lia
section
variable {kn kb:(Nat→V)→Sto→Prop} {K:Kx} {KE:(Nat→V)→Ke} {KE':Ke} {n b p N:Nat} {x:List Nat}
theorem vo {a b:X} {t u:Bool} (ha:Ev Sp gvL m σ a (.bool t) σ) (hb:t=true→Ev Sp gvL m σ b (.bool u) σ):Ev Sp gvL m σ (.and a b) (.bool (t&&u)) σ:=by
 intro K KE k;refine ha (fun d J=>ik d fun t=>match t with|true=>vcX Sp gvL b m J K KE|false=>K (.bool false) J) _ ?_;cases t
 ·exact k
 ·exact hb rfl _ _ k
theorem Mr {a b:X} {t u:Bool} (ha:Ev Sp gvL m σ a (.bool t) σ) (hb:t=false→Ev Sp gvL m σ b (.bool u) σ):Ev Sp gvL m σ (.or a b) (.bool (t||u)) σ:=by
 intro K KE k;refine ha (fun d J=>ik d fun t=>match t with|false=>vcX Sp gvL b m J K KE|true=>K (.bool true) J) _ ?_;cases t
 ·exact hb rfl _ _ k
 ·exact k
theorem ye (h20:Sp 20=spTokens) (h21:Sp 21=spTrees) (h31:Sp 31=qH) (h32:Sp 32=spPlace) {ds:List V} {K:Kx} {KE:Ke} (h:spRefused ds σ K KE):Wlk Sp lQ ds σ K KE:=by
 obtain⟨x,gs,f,e,t,rfl,hx,ht,he,k⟩:=h;refine bk 3 ?_;have hlt:=Km ht 0 e he;rw[C9] at hlt;refine aX (ds:=[.int (aY x e),.int (bI x e)]) (L':=[.str x,.int e,.bool t,.unb,.int (aY x e),.int (bI x e)]) (bt (ag (bt (ag kz au) fun K KE k=>h31▸⟨x,rfl,hx,k⟩) (ag kz au)) fun K KE k=>h32▸⟨x,e,rfl,hx,B2 hlt,k⟩) rfl ?_;refine Ae ?_;have H:∀(c:Int) (M1:Sto),(x[e]?=some 34∨c=bI x e)→vcS Sp gvL (.seq (.ret (.and (.cmp .eq (.attr (.var 3) 2) (.var 4)) (.or (.cmp .eq (.sub (.var 0) (.var 1)) (.lit (.str [34]))) (.cmp .eq (.attr (.var 3) 3) (.var 5))))) .skip) (upd (fr [.str x,.int e,.bool t,.unb,.int (aY x e),.int (bI x e)]) 3 (.exc (aY x e) c)) M1 (fun _ _=>False) K (fun _ _=>False) (fun _ _=>False) (fun _ _ _ _=>False):=by
  intro c M1 hc;refine er (bh (L':=[.str x,.int e,.bool t,.exc (aY x e) c,.int (aY x e),.int (bI x e)]) rfl rfl) ?_;obtain⟨y,hy⟩:∃y,x[e]?=some y:=⟨_,g7 hlt⟩;have e2:(decide ([y]=[34])||decide (c=bI x e))=true:=by
   rcases hc with z|z
   ·rw[hy] at z;cases z;rfl
   ·rw[f9 z,K3]
  refine bB (d:=.bool (true&&true)) (vo (t:=true) (u:=true) (gg (d:=.int (aY x e)) (e:=.int (aY x e)) kz kz (congrArg some (f9 rfl))) fun _=>?_) (k M1);refine er e2.symm ?_;exact Mr (gg (eO (n:=e) kz kz hy) kz rfl) fun _=>gg kz kz rfl
 induction t with
 |true=>
  show vcS Sp gvL (.seq (.expr (.call 21 (.cons (.var 0) .nil))) .skip) (fr [.str x,.int e,.bool true,.unb,.int (aY x e),.int (bI x e)]) σ _ _ _ _ _;show Sp 21 _ _ _ _;refine er h21 ?_;exact⟨x,gs,f,rfl,hx,ht,(fun z=>by rw[he] at z;cases z),fun e' he' c M1 hc hE=>by
   rw[he] at he';cases he';exact H c M1 hc⟩
 |false=>
  show Sp 20 _ _ _ _;refine er h20 ?_;exact⟨x,gs,f,rfl,hx,ht,(fun z=>by rw[he] at z;cases z),fun e' he' c M1 hc hE=>by
   rw[he] at he';cases he';exact H c M1 hc⟩
theorem IX {is:List Nat} {ds L L':List V} {f:(Nat→V)→Prop} (h:gH is ds L=some L') (k:f (fr L')):zK (.tup ds) (fun ds=>cS (bi is ds (fr L)) f):=dG h k
theorem vD (h21:Sp 21=spTrees) (h36:Sp 36=Aa) {ds:List V} {K:Kx} {KE:Ke} (h:spLawTrees ds σ K KE):Wlk Sp fT ds σ K KE:=by
 obtain⟨x,gs,f,rfl,hx,ht,he,k⟩:=h;refine bk 6 ?_;have htl:=nP (x:=x) ht 0;have hb:=io;have R:=jb (eC x 0 gs) [] .nil;rw[show plS []=[] from rfl] at R;generalize hts:eC x 0 gs=ts at R htl;refine⟨g6 _,fun o ho=>⟨g6 _,fun q hq=>⟨show 3≤100 by decide,?_⟩⟩⟩;have hoq:o≠q:=fun z=>by rw[←z,ai] at hq;cases hq
 refine IX (L':=[.str x,.lst (ts.map Tk.D),.unb,.lref o,.lref q,.none,.unb,.unb]) rfl ?_;refine gZ kz kz (es:=ts.map Tk.D) rfl (FS hoq ts [] .unb (by rw[E9];lia) fun one=>?_);generalize hsb:dW ts []=sb at R⊢;obtain⟨ex,st⟩:=sb;refine Ae ?_;have H:∀(r c:Int) (M1:Sto),Ext ((σ.put o (.list (st.map plP).reverse)).put q (.list [])) M1→((∃p,ex=some p∧p=(r,c))∨ex=none∧(r,c)∈st)→
   vcS Sp gvL (.seq (.ite (.cmp .notN (.var 5) (.lit .none)) (.seq (.ret (.cmp .eq (.tup (.cons (.attr (.var 2) 2) (.cons (.attr (.var 2) 3) .nil))) (.var 5))) .skip) .skip) (.seq (.ret (.cmp .inn (.tup (.cons (.attr (.var 2) 2) (.cons (.attr (.var 2) 3) .nil))) (.var 3))) .skip)) (upd (fr [.str x,.lst (ts.map Tk.D),.unb,.lref o,.lref q,exV ex,one,.unb]) 2 (.exc r c)) M1 (fun _ _=>False) K (fun _ _=>False) (fun _ _=>False) (fun _ _ _ _=>False):=by
  intro r c M1 hE hc;refine er (bh (L':=[.str x,.lst (ts.map Tk.D),.exc r c,.lref o,.lref q,exV ex,one,.unb]) rfl rfl) ?_;have T (ex:V):Ev Sp gvL (fr [.str x,.lst (ts.map Tk.D),.exc r c,.lref o,.lref q,ex,one,.unb]) M1 (.tup (.cons (.attr (.var 2) 2) (.cons (.attr (.var 2) 3) .nil))) (plP (r,c)) M1:=aK kz rfl;rcases hc with ⟨p,rfl,rfl⟩|⟨rfl,hm⟩
  ·refine aV (t:=true) (et_cmp kz kz rfl) (fun _=>bB (gg (T _) kz (t:=true) ?_) (k M1)) nofun;exact mL r c
  ·refine aV (t:=false) (et_cmp kz kz rfl) nofun fun _=>bB (gg (T _) kz (t:=true) ?_) (k M1);have ho':M1 o=some (.list (st.map plP).reverse):=by
    have:=hE o (by rw[aA _ _ hoq,ai];nofun);rw[aA _ _ hoq,ai] at this;exact this
   show(kS M1 (.lref o) fun xs=>eP (plP (r,c)) xs)=_;refine er (nC (eW ho')) (er I2.symm ?_);exact qx st.reverse (z5.mpr hm)
 show Sp 21 _ _ _ _;refine er h21 ?_;refine⟨x,gs,f,rfl,hx,ht,fun _=>?_,fun e' he'=>by rw[he] at he';cases he'⟩;refine er hts ?_
 induction ex with
 |some p=>
  refine er (show cH ts [] .nil= .error p from R) ?_;exact fun M1 hE=>H p.1 p.2 M1 hE (.inl ⟨p,rfl,rfl⟩)
 |none=>
  induction st with
  |cons p st=>
   refine er (show cH ts [] .nil= .error p from R) ?_;exact fun M1 hE=>H p.1 p.2 M1 hE (.inr ⟨rfl,.head _⟩)
  |nil=>
   refine eQ R fun l r1 r2 r3=>?_;refine er r1 ?_;have r2:l.flat=ts.map pT:=r2;have r3:l.sz≤2*ts.length:=by
    have:szS .nil []=0:=by show TrL.sz .nil=0;unfold TrL.sz;rfl
    lia
   show Sp 36 [.lst l.Vs] _ _ _;refine er h36 ?_;refine⟨l,rfl,by lia,?_⟩;refine er r2 ?_;show vcS Sp gvL fT.aft3 (upd (fr [.str x,.lst (ts.map Tk.D),.unb,.lref o,.lref q,.none,one,.unb]) 7 (.lst (ts.map pT))) ((σ.put o (.list [])).put q (.list [])) _ _ _ _ _;refine er (bh (L':=[.str x,.lst (ts.map Tk.D),.unb,.lref o,.lref q,.none,one,.lst (ts.map pT)]) rfl rfl) ?_;refine gZ kz kz (es:=ts.map Tk.D) rfl (FT ts [] one (by rw[E9];lia) fun one=>?_);have co:((σ.put o (.list [])).put q (.list ([]++ts.map pT))) o=some (.list []):=by rw[aA _ _ hoq,ai]
   have A:=gg (Sp:=Sp) (gv:=gvL) (m:=fr [.str x,.lst (ts.map Tk.D),.unb,.lref o,.lref q,.none,one,.lst (ts.map pT)]) (a:=.var 3) (b:=.list false .nil) kz (ba kz) (Bh co);have B:=gg (Sp:=Sp) (gv:=gvL) (m:=fr [.str x,.lst (ts.map Tk.D),.unb,.lref o,.lref q,.none,one,.lst (ts.map pT)]) (σ:=(σ.put o (.list [])).put q (.list ([]++ts.map pT))) (op:=.eq) (a:=.var 7) (b:=.var 4) (t:=true) kz kz (by
    show(kS ((σ.put o (.list [])).put q (.list ([]++ts.map pT))) (.lref q) fun ys=>if (ts.map pT).length=ys.length then cF eqV (ts.map pT) ys else some false)=_;rw[nC (eW (ai ..)),y1];show(if (ts.map pT).length=(ts.map pT).length then cF eqV (ts.map pT) (ts.map pT) else some false)=_;refine er (i7 rfl) ?_;exact sZ fun v hv=>by
     refine aj (m5.mp hv) fun t _ z2_=>?_;subst z2_;exact FG t)
   exact bB (d:=.bool (true&&(true&&true))) (vo (t:=true) (u:=true&&true) (gg kz kz rfl) fun _=>vo (t:=true) (u:=true) A fun _=>B) (k _)
end
def Em (t:Tk):Prop:=(t.s=cf→∃c r i,t.w=c::r∧t.v= .int i∧(bz (c::r)=false→0≤i))∧(t.s=dw→∃o,t.v= .bytes o)
theorem CA {c:Nat} {r:List Nat} {i:Int} (h:ez (c::r)=some i) (hs:bz (c::r)=false):0≤i:=by
 unfold ez at h;cases e:mB (c::r) with
 |none=>rw[e] at h;cases h
 |some j=>
  rw[e] at h;have hj:0≤j:=by
   unfold mB at e
   split at e<;>exact dQ e
  have:decide ((c::r).take 1=[45])=false:=by
   unfold bz at hs;have:=(m4.mp (m4.mp hs).2).1;exact c9 fun z=>g8 this z.symm
  rw[this] at h;cases h;exact hj
theorem Jd {c:Nat} {r:List Nat}:pn c r≠cf∧pn c r≠dw:=by
 unfold pn
 split
 ·exact⟨by decide,by decide⟩
 ·split<;>exact⟨by decide,by decide⟩
theorem Fp {ps:List Pc} (hb:bf ps=none) (row col:Int):Em ⟨(tkR ps).1,ae ps,(tkR ps).2,row,col⟩∧(tkR ps).1=(ib ps none).1∧(ib ps none).2=match decide ((tkR ps).1=dw)||decide ((tkR ps).1=cf) with|true=>(tkR ps).2|false=>.none:=by
 have D (s:List Nat) (v:V) (h1:s≠cf) (h2:s≠dw):(match decide (s=dw)||decide (s=cf) with|true=>v|false=>.none)= .none:=by
  rw[c9 h1,c9 h2];rfl
 cases e1:jD ps with
 |some o=>
  have:∃i,ps=[.s i (some o)]:=by
   exact qk e1
  refine ar this fun i z1_=>?_;subst z1_;exact⟨⟨fun z=>absurd (show dw=cf from z) (by decide),fun _=>⟨o,rfl⟩⟩,rfl,rfl⟩
 |none=>
  have e2:nB ps=none:=by
   rcases ps with _|⟨p,ps⟩
   ·rfl
   induction p with
   |w c=>rfl
   |s i r=>
    rcases ps with _|⟨p,ps⟩
    ·induction r with
     |none=>exact nomatch hb
     |some o=>exact nomatch e1
    ·rfl
  have t1:tkR ps=match decide (fX ps=0) with|true=>tkW (ae ps)|false=>(bG,.str (ae ps)):=by unfold tkR;rw[e1]<;>rfl
  have t2:ib ps none=match decide (fX ps=0) with|true=>tkD (ae ps)|false=>(bG,.none):=by unfold ib;rw[e2]<;>rfl
  cases e3:decide (fX ps=0) with
  |false=>
   rw[e3] at t1 t2;refine er t1 (er t2 ?_);exact⟨⟨fun z=>absurd (show bG=cf from z) (by decide),fun z=>absurd (show bG=dw from z) (by decide)⟩,rfl,rfl⟩
  |true=>
   rw[e3] at t1 t2;dsimp only at t1 t2;cases e4:ae ps with
   |nil=>
    rw[e4] at t1 t2;refine er t1 (er t2 ?_);exact⟨⟨fun z=>absurd (show bG=cf from z) (by decide),fun z=>absurd (show bG=dw from z) (by decide)⟩,rfl,rfl⟩
   |cons c r=>
    rw[e4] at t1 t2;unfold tkW at t1;unfold tkD at t2;dsimp only at t1 t2;cases e5:ez (c::r) with
    |some i=>
     rw[e5] at t1 t2;refine er t1 (er t2 ?_);exact⟨⟨fun _=>⟨c,r,i,rfl,rfl,CA e5⟩,fun z=>absurd (show cf=dw from z) (by decide)⟩,rfl,rfl⟩
    |none=>
     rw[e5] at t1 t2;refine er t1 (er t2 ?_);refine am (Jd (c:=c) (r:=r)) fun n1 n2=>?_;exact⟨⟨fun z=>absurd z n1,fun z=>absurd z n2⟩,rfl,(D _ _ n1 n2).symm⟩
theorem GL {x l:List Nat} {gs:List Gp} {f:Fi} (h:Tx l gs f):∀n,cG n gs f=none→cq x n gs f=(eC x n gs).map Tk.D∧∀t∈eC x n gs,Em t:=by
 induction h with
 |nil=>exact fun n _=>⟨rfl,nofun⟩
 |sp _ _ ih=>exact fun n he=>ih (n+1) he
 |line _ _ _ ih=>exact fun n he=>ih _ he
 |block _ _ ih=>exact fun n he=>ih _ he
 |blockO=>exact nofun
 | @br c l gs f hc hc' ht ih=>
  intro n he;refine am (ih (n+1) he) fun h1 h2=>?_;have e:(decide ([c]=dw)||decide ([c]=cf))=false:=by rcases hc with rfl|rfl<;>rfl
  refine⟨?_,fun t ht=>(d0.mp ht).elim (fun z=>by subst z;exact⟨nofun,nofun⟩) (h2 t)⟩;show jx x [c] [c] .none n::cq x (n+1) gs f=_;refine er h1 ?_;show _=V.tup [.str [c],.str [c],(match decide ([c]=dw)||decide ([c]=cf) with|true=>V.str [c]|false=>.none),_,_]::_;rw[e];rfl
 | @lo c l gs f hc hc' ht ih=>
  intro n he;refine am (ih (n+1) he) fun h1 h2=>?_;refine⟨?_,fun t ht=>(d0.mp ht).elim (fun z=>by subst z;exact⟨fun z=>absurd (show bG=cf from z) (by decide),fun z=>absurd (show bG=dw from z) (by decide)⟩) (h2 t)⟩;show jx x bG [c] .none n::cq x (n+1) gs f=_;rw[h1];rfl
 | @run ps l gs f hne hp hl ht ih=>
  intro n he;have he:(match bf ps with|some e=>some (n+e)|none=>cG (n+(ae ps).length) gs f)=none:=he;cases hb:bf ps with
  |some e=>rw[hb] at he;cases he
  |none=>
   rw[hb] at he;refine am (ih _ he) fun h1 h2=>?_;refine cQ (Fp hb (aY x n) (bI x n)) fun r1 r2 r3=>?_;refine⟨?_,fun t ht=>(d0.mp ht).elim (fun z=>by subst z;exact r1) (h2 t)⟩;show jx x (ib ps none).1 (ae ps) (ib ps none).2 n::cq x (n+(ae ps).length) gs f=_;rw[h1,r3,←r2];rfl
 |runO=>exact nofun
 |bad=>exact nofun
inductive spLaw (ds:List V) (σ:Sto) (K:Kx) (KE:Ke):Prop
 |mk (l:List Int) (gs:List Gp) (f:Fi) (h1:ds=[.lst (l.map .int)]) (h2:Tx (cR (cx l)) gs f) (h3:∀M1,K (.bool true) M1):spLaw ds σ K KE
theorem yk (b:Nat) (sg:Bool) (i row col:Int):eqV (eM b sg i row col) (eM b sg i row col)=some true:=by
 unfold eM
 split
 ·exact gN _
 ·exact mL ..
theorem tU {σ:Sto} {l:List V} (h:∀v∈l,eqV v v=some true):fZ σ .ne (.lst l) (.lst l)=some false:=by
 show(if l.length=l.length then cF eqV l l else some false).map not=_;rw[i7 rfl,sZ h];rfl
section
variable {kn kb:(Nat→V)→Sto→Prop} {K:Kx} {KE:(Nat→V)→Ke} {KE':Ke} {n b p N:Nat} {x:List Nat} {ts:List Tk}
theorem Bd {i:Nat} {e elt:X} {d:V} {g:Tk→V} (f:Tk→V) (he:Ev Sp gvL m σ e d σ) (hs:jl 2 d .none σ=some (ts.map f)) (hl:jy d σ σ) (h:∀t∈ts,Ev Sp gvL (upd m i (f t)) σ elt (g t) σ) (hn:ts.length≤aH):Ev Sp gvL m σ (.comp false elt .absent i 2 e .absent) (.lst (ts.map g)) σ:=by
 have e1:ts.filterMap (fun t=>some (g t))=ts.map g:=congrFun List.filterMap_eq_map ts;have:=iU (Sp:=Sp) (gv:=gvL) (m:=m) (σ:=σ) (i:=i) (kind:=2) (e:=e) (e':=.absent) (cond:=.absent) (elt:=elt) (f:=f) (g:=fun t=>some (g t)) (l:=ts) he kz hs hl (fun t ht=>⟨true,kz,rfl,h t ht⟩) (by rw[e1,f7];exact b9 hn (by decide));rw[e1] at this;exact this
theorem nH {e i:X} {l:List V} {v:V} {k:Nat} (he:Ev Sp gvL m σ e (.lst l) σ) (hi:Ev Sp gvL m σ i (.int k) σ) (h:l[k]?=some v):Ev Sp gvL m σ (.sub e i) v σ:=
 dZ he hi fun _ q=>mJ (g9 _) (by rw[r9];exact h) q
theorem rF {i:Nat} {elt:X} {g:Nat→V} (h:∀b,(b=0∨b=32∨b=64)→Ev Sp gvL (upd m i (.int (b:Nat))) σ elt (g b) σ):Ev Sp gvL m σ (.comp false elt .absent i 2 (.tup (.cons (.lit (.int 0)) (.cons (.lit (.int 32)) (.cons (.lit (.int 64)) .nil)))) .absent) (.lst [g 0,g 32,g 64]) σ:=by
 have:=iU (Sp:=Sp) (gv:=gvL) (m:=m) (σ:=σ) (i:=i) (kind:=2) (e:=.tup (.cons (.lit (.int 0)) (.cons (.lit (.int 32)) (.cons (.lit (.int 64)) .nil)))) (e':=.absent) (cond:=.absent) (elt:=elt) (f:=fun(b:Nat)=>.int (b:Int)) (g:=fun b=>some (g b)) (l:=[0,32,64]) (aK kz rfl) kz rfl trivial (fun t ht=>⟨true,kz,rfl,h t (by simpa using ht)⟩) (show 3≤ah by decide);exact this
theorem CQ (h34:Sp 34=spTold) (h35:Sp 35=spDue) {s0 s1 s3 w:V} {k:Nat} {t:Tk} (ht:ts[k]?=some t) (hk:Em t) (k':∀w,kn (fr [s0,s1,.lst (ts.map Tk.D),s3,.lst (ts.map Tk.V),.int k,w]) σ):vcS Sp gvL ni.forB (fr [s0,s1,.lst (ts.map Tk.D),s3,.lst (ts.map Tk.V),.int k,w]) σ kn Kr kb kn KE:=by
 have hD:(ts.map Tk.D)[k]?=some t.D:=by rw[v7,ht];rfl
 have hV:(ts.map Tk.V)[k]?=some t.V:=by rw[v7,ht];rfl
 have ED (w:V):Ev Sp gvL (fr [s0,s1,.lst (ts.map Tk.D),s3,.lst (ts.map Tk.V),.int k,w]) σ (.sub (.var 2) (.var 5)) t.D σ:=nH kz kz hD;have EV (w:V):Ev Sp gvL (fr [s0,s1,.lst (ts.map Tk.D),s3,.lst (ts.map Tk.V),.int k,w]) σ (.sub (.var 4) (.var 5)) t.V σ:=nH kz kz hV;have ES (w:V):Ev Sp gvL (fr [s0,s1,.lst (ts.map Tk.D),s3,.lst (ts.map Tk.V),.int k,w]) σ (.sub (.sub (.var 2) (.var 5)) (.lit (.int 0))) (.str t.s) σ:=dZ (ED w) kz fun _ k=>k;have hval:t.s=dw∨t.s=cf→(match decide (t.s=dw)||decide (t.s=cf) with|true=>t.v|false=>V.none)=t.v∧fZ σ .ne t.v t.v=some false∧t.v.ok=true:=by
  intro h;refine⟨?_,?_⟩
  ·rcases h with h|h
   ·rw[f9 h];rfl
   ·rw[f9 (p:=t.s=cf) h,K3]
  ·rcases h with h|h
   ·refine ar (hk.2 h) fun o ho=>?_;refine er ho ?_;exact⟨by show some (!decide (o=o))=_;rw[f9 rfl];rfl,rfl⟩
   ·refine eB (hk.1 h) fun c r i _ hi _=>?_;refine er hi ?_;exact⟨by show some (!decide (i=i))=_;rw[f9 rfl];rfl,rfl⟩
 refine aV (t:=(decide (dw=t.s)||(decide (cf=t.s)||false))&&false) (et_and (et_cmp (ES w) (aK kz rfl) rfl) fun q=>?_) (fun q=>by rw[v4] at q;cases q) fun _=>?_
 ·have h:t.s=dw∨t.s=cf:=by
   rw[Bool.or_false,z7,o5,o5] at q;exact q.imp Eq.symm Eq.symm
  refine cQ (hval h) fun v1 v2 v3=>?_;refine et_cmp (d:=t.v) (e:=t.v) (iF (EV w) rfl v3) (dZ (ED w) (j:=.int 2) kz fun K k=>?_) v2;show K (match decide (t.s=dw)||decide (t.s=cf) with|true=>t.v|false=>V.none) σ;rw[v1];exact k
 refine ak (d:=.lst [plV t.row t.col,plV t.row t.col,plV t.row t.col]) (L':=[s0,s1,.lst (ts.map Tk.D),s3,.lst (ts.map Tk.V),.int k,.lst [plV t.row t.col,plV t.row t.col,plV t.row t.col]]) (aB (M9:=.lst [plV t.row t.col]) (M5:=.int 3) (ba (evp (aK (evp (dZ (ED w) kz fun _ k=>k) (evp (dZ (ED w) kz fun _ k=>k) au)) rfl) au)) kz fun _ k=>⟨by decide,k⟩) rfl rfl ?_;have Z (W:List V) (hW:∀v∈W,eqV v v=some true) (E:Ev Sp gvL (fr [s0,s1,.lst (ts.map Tk.D),s3,.lst (ts.map Tk.V),.int k,.lst W]) σ (.comp false (.call 34 (.cons (.sub (.var 4) (.var 5)) (.cons (.var 10) .nil))) .absent 10 2 (.tup (.cons (.lit (.int 0)) (.cons (.lit (.int 32)) (.cons (.lit (.int 64)) .nil)))) .absent) (.lst W) σ):
   vcS Sp gvL ni.forB.aft3 (fr [s0,s1,.lst (ts.map Tk.D),s3,.lst (ts.map Tk.V),.int k,.lst W]) σ kn Kr kb kn KE:=
  aV (t:=false) (et_cmp E kz (tU hW)) nofun fun _=>k' _
 have EV' (w:V) (i b:Nat) (hi:i=9∨i=10):Ev Sp gvL (upd (fr [s0,s1,.lst (ts.map Tk.D),s3,.lst (ts.map Tk.V),.int k,w]) i (.int (b:Nat))) σ (.sub (.var 4) (.var 5)) t.V σ:=by
  rcases hi with rfl|rfl<;>exact nH kz kz hV
 refine aV (t:=decide (t.s=cf)) (et_cmp (ES _) kz rfl) (fun q=>?_) fun q=>?_
 ·refine av fun gP gO=>?_;have q:=c8 q;refine eB (hk.1 q) fun c r i hw hv h0=>?_;have vi:(match decide (t.s=dw)||decide (t.s=cf) with|true=>t.v|false=>V.none)= .int i:=(hval (.inr q)).1.trans hv;have hDe:t.D= .tup [.str cf,.str (c::r),.int i,.int t.row,.int t.col]:=by
   show V.tup [.str t.s,.str t.w,(match decide (t.s=dw)||decide (t.s=cf) with|true=>t.v|false=>V.none),_,_]=_;exact er vi (er q (er hw rfl))
  have hVe:t.V=fU cf (c::r) (.int i) t.row t.col:=by
   show fU t.s t.w t.v t.row t.col=_;exact er q (er hw (er hv rfl))
  refine gO ?_;refine ak (d:=.lst [eM 0 (bz (c::r)) i t.row t.col,eM 32 (bz (c::r)) i t.row t.col,eM 64 (bz (c::r)) i t.row t.col]) (L':=[s0,s1,.lst (ts.map Tk.D),s3,.lst (ts.map Tk.V),.int k,.lst [eM 0 (bz (c::r)) i t.row t.col,eM 32 (bz (c::r)) i t.row t.col,eM 64 (bz (c::r)) i t.row t.col]]) (rF (g:=fun b=>eM b (bz (c::r)) i t.row t.col) fun b hb=>bt (ag (nH kz kz hD) (ag kz au)) fun K KE k=>h35▸⟨c,r,i,t.row,t.col,b,congrArg (fun d=>[d,V.int (b:Int)]) hDe,hb,h0,k⟩) rfl rfl ?_;refine Z _ (fun v hv=>?_) (rF (g:=fun b=>eM b (bz (c::r)) i t.row t.col) fun b hb=>bt (ag (EV' _ 10 b (.inr rfl)) (ag kz au)) fun K KE k=>h34▸⟨cf,c::r,.int i,t.row,t.col,b,congrArg (fun d=>[d,V.int (b:Int)]) hVe,hb,.inr ⟨c,r,i,rfl,rfl,rfl,k⟩⟩);simp only[d0,w8,or_false] at hv;rcases hv with rfl|rfl|rfl<;>exact yk ..
 ·have q:=g8 q;refine Z _ (fun v hv=>?_) (rF (g:=fun b=>plV t.row t.col) fun b hb=>bt (ag (EV' _ 10 b (.inr rfl)) (ag kz au)) fun K KE k=>h34▸⟨t.s,t.w,t.v,t.row,t.col,b,rfl,hb,.inl ⟨q,k⟩⟩);simp only[d0,w8,or_false] at hv;rcases hv with rfl|rfl|rfl<;>exact mL ..
theorem CS (h34:Sp 34=spTold) (h35:Sp 35=spDue) {s0 s1 s3:V} (hk:∀t∈ts,Em t):∀(n k:Nat) (s5 w:V),k+n=ts.length→(∀s5 w,Kn (fr [s0,s1,.lst (ts.map Tk.D),s3,.lst (ts.map Tk.V),s5,w]) σ)→
  fY 5 (fun _=>True) (fun m σ kn kb=>vcS Sp gvL ni.forB m σ kn Kr kb kn KE) Kn ((List.range' k n).map fun(k:Nat)=>V.int (k:Int)) (fr [s0,s1,.lst (ts.map Tk.D),s3,.lst (ts.map Tk.V),s5,w]) σ:=by
 intro zz
 induction zz with
 |zero=>
  intro k s5 w _ kk;exact kk s5 w
 |succ n ih=>
  intro k s5 w h kk;refine er w9 (er j3 ?_)
  first|rw[bx]|rw[bH]
  refine er (bh (L':=[s0,s1,.lst (ts.map Tk.D),s3,.lst (ts.map Tk.V),.int k,w]) rfl rfl) ?_;have ht:ts[k]?=some ts[k]:=g7 (by lia);exact CQ h34 h35 ht (hk _ (List.getElem_mem _)) fun w=>⟨trivial,ih (k+1) _ w (by lia) kk⟩
theorem yG {g:Nat} {xs:XL} {r:S} {ds:List V} {m:Nat→V} (hx:Evs Sp gvL m σ xs ds J) (h:Sp g ds J Kr (KE m)):vcS Sp gvL (.seq (.ret (.call g xs)) r) m σ Kn Kr Kb Kc KE:=
 hx (fun ds J=>Sp g ds J (fun d σ=>Kr d σ) (KE m)) _ h
theorem LK (h20:Sp 20=spTokens) (h25:Sp 25=uY) (h33:Sp 33=spRead) (h34:Sp 34=spTold) (h35:Sp 35=spDue) (h37:Sp 37=spRefused) (h38:Sp 38=spLawTrees) {ds:List V} {K:Kx} {KE:Ke} (h:spLaw ds σ K KE):Wlk Sp ni ds σ K KE:=by
 obtain⟨l,gs,f,rfl,ht,k⟩:=h;refine bk 6 ?_;refine cQ (iL l) fun x1 x2 x3=>?_;generalize hx:cR (cx l)=x at ht x1 x2 x3;have hx1:x.length≤aH:=b9 x1 (by decide);refine ak (d:=.str x) (L':=[.lst (l.map .int),.str x,.unb,.unb,.unb,.unb,.unb]) (bt (ag kz au) fun K KE k=>h25▸⟨l,rfl,by rw[hx];exact k⟩) rfl rfl ?_;have EL (t:Nat) (L:List V):∃b,Ev Sp gvL (fr (.lst (l.map .int)::L)) σ (.cmp .eq (.bin .mod (.blt 0 (.var 0)) (.lit (.int 2))) (.lit (.int 1))) (.bool b) σ∧Et Sp gvL (fr (.lst (l.map .int)::L)) σ (.cmp .eq (.bin .mod (.blt 0 (.var 0)) (.lit (.int 2))) (.lit (.int 1))) b:=by
  have M:Ev Sp gvL (fr (.lst (l.map .int)::L)) σ (.bin .mod (.blt 0 (.var 0)) (.lit (.int 2))) (.int (((l.map V.int).length:Int).fmod 2)) σ:=aB (M9:=.int (l.map V.int).length) (dE (d:=.lst (l.map .int)) kz fun _ k=>k) kz fun _ k=>⟨by decide,k⟩;exact⟨_,gg M kz rfl,et_cmp M kz rfl⟩
 show Sp 33 _ _ _ _;refine er h33 ?_;refine⟨x,gs,f,rfl,hx1,x2,ht,fun he=>?_,fun e he due rest=>?_⟩
 ·obtain⟨d1,d2⟩:=GL (x:=x) ht 0 he;refine er d1 ?_;have htl:=nP (x:=x) ht 0;generalize hts:eC x 0 gs=ts at d2 htl⊢;show cS (bi [2,3] [.lst (ts.map Tk.D),.lst []] (fr [.lst (l.map .int),.str x,.unb,.unb,.unb,.unb,.unb])) fun m'=>vcS Sp gvL ni.aft2 m' σ (fun _ M1=>K .none M1) K (fun _ _=>False) (fun _ _=>False) (fun _=>KE);refine dG (L':=[.lst (l.map .int),.str x,.lst (ts.map Tk.D),.lst [],.unb,.unb,.unb]) rfl ?_;refine aV (t:=false) (et_cmp kz (ba kz) rfl) nofun fun _=>?_;refine aj (EL 0 [.str x,.lst (ts.map Tk.D),.lst [],.unb,.unb,.unb]) fun b _ Eb=>?_;refine aV Eb (fun _=>?_) fun _=>?_
  ·show Sp 38 _ _ _ _;refine er h38 ?_;exact⟨x,gs,f,by rw[hts],hx1,ht,he,k⟩
  show Sp 20 _ _ _ _;refine er h20 ?_;refine⟨x,gs,f,rfl,hx1,ht,fun _=>?_,fun e he'=>by rw[he] at he';cases he'⟩;refine er hts ?_;show vcS Sp gvL ni.aft4.aft1 (upd (fr [.lst (l.map .int),.str x,.lst (ts.map Tk.D),.lst [],.unb,.unb,.unb]) 4 (.lst (ts.map Tk.V))) σ _ _ _ _ _;refine er (bh (L':=[.lst (l.map .int),.str x,.lst (ts.map Tk.D),.lst [],.lst (ts.map Tk.V),.unb,.unb]) rfl rfl) ?_;have C1:Ev Sp gvL (fr [.lst (l.map .int),.str x,.lst (ts.map Tk.D),.lst [],.lst (ts.map Tk.V),.unb,.unb]) σ (.comp false (.tup (.cons (.attr (.var 7) 5) (.cons (.attr (.var 7) 0) (.cons (.attr (.var 7) 2) (.cons (.attr (.var 7) 3) .nil))))) .absent 7 2 (.var 4) .absent) (.lst (ts.map Tk.P)) σ:=
   Bd Tk.V kz rfl trivial (fun t _=>aK kz rfl) (by lia)
  have C2:Ev Sp gvL (fr [.lst (l.map .int),.str x,.lst (ts.map Tk.D),.lst [],.lst (ts.map Tk.V),.unb,.unb]) σ (.comp false (.tup (.cons (.sub (.var 8) (.lit (.int 0))) (.cons (.sub (.var 8) (.lit (.int 1))) (.cons (.sub (.var 8) (.lit (.int 3))) (.cons (.sub (.var 8) (.lit (.int 4))) .nil))))) .absent 8 2 (.var 2) .absent) (.lst (ts.map Tk.P)) σ:=
   Bd Tk.D kz rfl trivial (fun t _=>aK kz rfl) (by lia)
  refine aV (t:=false) (et_cmp C1 C2 (tU fun v hv=>?_)) nofun fun _=>?_
  ·refine aj (m5.mp hv) fun t _ z2_=>?_;subst z2_;exact Bu t
  refine gZ (d:=.int (ts.length:Nat)) (dE (d:=.lst (ts.map Tk.D)) kz fun K k=>?_) kz (jc (show ts.length≤aH by lia)) ?_
  ·show K (.int (ts.map Tk.D).length) σ;rw[f7];exact k
  refine er K2 ?_;exact CS h34 h35 d2 ts.length 0 .unb .unb (by lia) fun s5 w=>bB kz (k σ)
 ·show cS (bi [2,3] [.lst due,.lst (.int (e:Nat)::rest)] (fr [.lst (l.map .int),.str x,.unb,.unb,.unb,.unb,.unb])) fun m'=>vcS Sp gvL ni.aft2 m' σ (fun _ M1=>K .none M1) K (fun _ _=>False) (fun _ _=>False) (fun _=>KE);refine dG (L':=[.lst (l.map .int),.str x,.lst due,.lst (.int (e:Nat)::rest),.unb,.unb,.unb]) rfl ?_;refine aV (t:=true) (et_cmp kz (ba kz) rfl) (fun _=>?_) nofun;refine aj (EL 0 [.str x,.lst due,.lst (.int (e:Nat)::rest),.unb,.unb,.unb]) fun b Eb _=>?_;exact yG (ag kz (ag (nH (k:=0) (v:=.int (e:Nat)) kz kz rfl) (ag Eb au))) (h37▸⟨x,gs,f,e,b,rfl,hx1,ht,he,k⟩)
end
theorem yF:∀l:List Nat,∃cs r,l=cs++r∧(∀c∈cs,c≠10∧c≠13)∧jB r:=by
 intro zz
 induction zz with
 |nil=>
  exact⟨[],[],rfl,nofun,trivial⟩
 |cons c l ih=>
  by_cases h:c=10∨c=13
  ·exact⟨[],c::l,rfl,nofun,h⟩
  ·refine av fun gP gO=>?_;refine aZ ih fun cs r z2_ h1 h2=>?_;subst z2_;refine gO ?_;exact⟨c::cs,r,rfl,fun y hy=>(d0.mp hy).elim (fun z=>by rw[z];exact⟨fun z=>h (.inl z),fun z=>h (.inr z)⟩) (h1 y),h2⟩
theorem jY {P:List Nat→Prop} (h:∀l,(∀r,r.length<l.length→P r)→P l) (l:List Nat):P l:=by
 have:∀n l,l.length<n→P l:=by
  intro n
  induction n with
  |zero=>exact fun _ h=>absurd h (Nat.not_lt_zero _)
  |succ n ih=>exact fun l hl=>h l fun r hr=>ih r (l3 hr (Nat.le_of_lt_succ hl))
 exact this _ l (r5 _)
theorem ra {i l:List Nat} {k:Nat}:l.length<(i++l).length+(k+1):=by rw[b0];lia
theorem zG:∀(l:List Nat) (d:Nat),∃cs r e,l=cs++r∧Bk d cs e∧(e=0∨r=[]):=by
 refine jY fun l ih d=>?_;rcases d with _|d
 ·exact⟨[],l,0,rfl,.nil 0,.inl rfl⟩
 rcases l with _|⟨c,r⟩
 ·exact⟨[],[],d+1,rfl,.nil _,.inr rfl⟩
 ·skip
  by_cases h1:c=40∧r.head?=some 59
  ·refine am h1 fun e1 h1=>?_;rcases r with _|⟨a,r⟩
   ·exact noS h1
   ·refine eB (ih r (n9 (r5 _)) (d+2)) fun cs r' e e2 hb he=>?_;exact⟨40::59::cs,r',e,by rw[e1,c7 h1,e2];rfl,.opn hb,he⟩
  by_cases h2:c=59∧r.head?=some 41
  ·obtain⟨e1,h2⟩:=h2;rcases r with _|⟨a,r⟩
   ·exact noS h2
   ·refine eB (ih r (n9 (r5 _)) d) fun cs r' e e2 hb he=>?_;exact⟨59::41::cs,r',e,by rw[e1,c7 h2,e2];rfl,.cls hb,he⟩
  refine eB (ih r (r5 _) (d+1)) fun cs r' e e2 hb he=>?_;refine⟨c::cs,r',e,congrArg (c:: ·) e2,.oth ?_ hb,he⟩;rcases cs with _|⟨a,cs⟩
  ·exact⟨(fun z=>nomatch z.2),fun z=>nomatch z.2⟩
  ·rw[e2] at h1 h2;exact⟨h1,h2⟩
theorem Dg:∀l:List Nat,∃us r,l=us++r∧(∀c∈us,hxB c=true)∧fR r:=by
 intro zz
 induction zz with
 |nil=>
  exact⟨[],[],rfl,nofun,nofun⟩
 |cons c l ih=>
  cases h:hxB c with
  |false=>exact⟨[],c::l,rfl,nofun,fun y hy=>by cases hy;exact h⟩
  |true=>
   refine aZ ih fun us r z2_ h1 h2=>?_;subst z2_;exact⟨c::us,r,rfl,fun y hy=>(d0.mp hy).elim (fun z=>z▸h) (h1 y),h2⟩
theorem Dy (l:List Nat):∃o,Es l o:=by
 cases l with
 |nil=>exact⟨none,.bad nofun nofun⟩
 |cons b r=>
  cases h:bP b with
  |some v=>exact⟨_,.sim h⟩
  |none=>
   by_cases h1:b=117
   ·subst h1;by_cases h2:r.head?=some 123
    ·cases r with
     |nil=>cases h2
     |cons a r=>
      cases h2;refine aZ (Dg r) fun us r' z2_ h3 h4=>?_;subst z2_;by_cases h5:∃i,nh us r' i
      ·refine ar h5 fun i h5=>?_;exact⟨_,.uni h3 h4 h5⟩
      ·exact⟨_,.badV h3 h4 h5⟩
    ·exact⟨_,.badU h2⟩
   ·by_cases h2:∃a q,r=a::q∧b∈bU∧a∈bU
    ·refine aZ h2 fun a q z2_ h3 h4=>?_;subst z2_;exact⟨_,.hex h3 h4⟩
    ·exact⟨none,.bad (fun y hy=>by cases hy;exact⟨h,h1⟩) fun a c q e ⟨z1,z2⟩=>by
      cases e;exact h2 ⟨c,q,rfl,z1,z2⟩⟩
theorem Sc.tail {c:Nat} {w:List Nat} (h:Sc (c::w)) (hc:c≠92):Sc w:=by
 cases h with
 |chr h1 h2 h3 h4=>exact h4
 |esc h1=>exact absurd rfl hc
theorem Sc.drop:∀(u r:List Nat),(∀c∈u,c≠92)→Sc (u++r)→Sc r:=by
 intro zz
 induction zz with
 |nil=>
  intro r _ h;exact h
 |cons c u ih=>
  intro r hc h;exact ih r (fun y hy=>hc y (.tail _ hy)) (Sc.tail (w:=u++r) h (hc c (.head _)))
theorem HO {c:Nat} (h:hxB c=true):c≠92∧c≠34:=by
 rcases l8.mp h with h|h
 ·have:∀c∈bU,c≠92∧c≠34:=by decide
  exact this c (d6.mp h)
 ·have:=c8 h;subst this;decide
inductive EscT (l:List Nat):Prop
 |bad (h:Es l none):EscT l
 |ok (u l' o:List Nat) (e:l=u++l') (ho:Es (u++l') (some (o,u.length))) (hu:u≠[]) (hnl:∀c∈u,c≠10∧c≠13) (h4:o.length≤4) (hs:Sc l'):EscT l
theorem zk {b:Nat} {l:List Nat} (h1:Sc l):EscT (b::l):=by
 refine ar (Dy (b::l)) fun o ho=>?_;rcases o with _|⟨o,k⟩
 ·exact .bad ho
 have go (u l':List Nat) (e:b::l=u++l') (hu:u≠[]) (hk:k=u.length) (hnl:∀c∈u,c≠10∧c≠13) (ho4:o.length≤4) (hs':Sc l'):EscT (b::l):=.ok u l' o e (e▸hk▸ho) hu hnl ho4 hs';rcases ho.inv with ⟨b',v,l',e1,e2,e3,e4⟩|⟨p,q,l',e1,e2,e3,e4,e5⟩|⟨us,r',i,e1,e2,e3,e4,e5⟩
 ·have eb:=(j2 e1).1;refine go [b] l rfl nofun e4 (fun c hc=>?_) (by rw[e3];exact show 1≤4 by decide) h1;refine er (j4.mp hc) (er eb ?_);exact⟨(fun z=>by rw[z] at e2;exact noS e2),fun z=>by rw[z] at e2;exact noS e2⟩
 ·refine am (j2 e1) fun eb el=>?_;rw[el] at h1 go⊢;refine go [b,q] l' rfl nofun e5 (fun c hc=>?_) (by rw[e4];exact show 1≤4 by decide) (Sc.drop [q] l' (fun c hc=>?_) h1)
  ·rcases d0.mp hc with z|hc
   ·rw[z,eb];exact lL _ e2
   ·rw[j4.mp hc];exact lL _ e3
  ·refine er (j4.mp hc) ?_;exact(HO (show hxB q=true by unfold hxB;rw[d6.mpr e3];rfl)).1
 ·refine am (j2 e1) fun eb el=>?_;obtain⟨r2,er⟩:∃r2,r'=125::r2:=by
   have:=e3.1;rcases r' with _|⟨c,r2⟩
   ·exact noS this
   ·exact⟨r2,congrArg (· ::r2) (c7 this)⟩
  have el:l=(123::(us++[125]))++r2:=by rw[el,er,u6,e9];rfl
  rw[el] at h1 go⊢;rw[eb] at go⊢;refine go (117::123::(us++[125])) r2 rfl nofun (by rw[e5,c6,c6,b0];rfl) (fun c hc=>?_) (by rw[e4];exact gq _) (Sc.drop (123::(us++[125])) r2 (fun c hc=>?_) h1)
  ·rcases d0.mp hc with z|hc
   ·rw[z];decide
   ·rcases d0.mp hc with z|hc
    ·rw[z];decide
    ·rcases m8.mp hc with hc|hc
     ·exact qn (e2 c hc)
     ·rw[j4.mp hc];decide
  ·rcases d0.mp hc with z|hc
   ·rw[z];decide
   ·rcases m8.mp hc with hc|hc
    ·exact(HO (e2 c hc)).1
    ·rw[j4.mp hc];decide
theorem Cy:∀(l:List Nat),Sc l→(∀c∈l,kT c)→∃r,Oc l r:=by
 refine jY fun l ih hs hg=>?_;cases hs with
 |nil=>exact⟨_,.nil⟩
 | @chr c l h1 h2 h3 h4=>
  by_cases h5:c<32∨c=127
  ·exact⟨none,.ctl h1 h3 h5⟩
  ·refine ar (ih l (r5 _) h4 fun y hy=>hg y (.tail _ hy)) fun r hr=>?_;exact⟨_,.chr ⟨h1,h2,by lia,fun z=>h5 (.inr z)⟩ (hg c (.head _)) hr⟩
 | @esc b l h1=>
  cases zk (b:=b) h1 with
  |bad ho=>exact⟨none,.bad nofun ho⟩
  |ok u l' o e ho hu hnl h4 hs'=>
   rw[e] at ih hg⊢;refine ar (ih l' ra hs' fun y hy=>hg y (.tail _ (k8 _ hy))) fun r hr=>?_;exact⟨_,.esc ho hu hnl h4 hr⟩
theorem yp:∀(l:List Nat),∃i t,l=i++t∧Sc i∧pz t:=by
 refine jY fun l ih=>?_;rcases l with _|⟨c,l⟩
 ·exact⟨[],[],rfl,.nil,.inr (.inl rfl)⟩
 by_cases h1:c=34
 ·exact⟨[],_,rfl,.nil,.inl ⟨l,by rw[h1]⟩⟩
 by_cases h2:c=10∨c=13
 ·exact⟨[],_,rfl,.nil,.inr (.inr (.inr ⟨c,l,rfl,h2⟩))⟩
 by_cases h3:c=92
 ·refine er h3 ?_;rcases l with _|⟨b,l⟩
  ·exact⟨[],[92],rfl,.nil,.inr (.inr (.inl rfl))⟩
  ·refine aZ (ih l (n9 (r5 _))) fun i t e h4 h5=>?_;exact⟨92::b::i,t,by rw[e];rfl,.esc h4,h5⟩
 refine aZ (ih l (r5 _)) fun i t e h4 h5=>?_;exact⟨c::i,t,congrArg (c:: ·) e,.chr h1 h3 ⟨fun z=>h2 (.inl z),fun z=>h2 (.inr z)⟩ h4,h5⟩
inductive RunT (l:List Nat):Prop
 |run (ps:List Pc) (hp:∀p∈ps,p.Ok) (r:List Nat) (e:l=ae ps++r) (h:fQ r):RunT l
 |opn (ps:List Pc) (hp:∀p∈ps,p.Ok) (tl i t:List Nat) (r:Option (List Nat)) (e:l=ae ps++tl) (h:ny tl (some (i,t,r))) (hs:Sc i):RunT l
theorem RunT.add {l:List Nat} (h:RunT l) {q:Pc} (hq:q.Ok) {l':List Nat} (e:∀ps tl,l=ae ps++tl→l'=ae (q::ps)++tl):RunT l':=by
 have ok {ps:List Pc} (hp:∀p∈ps,p.Ok):∀p∈q::ps,p.Ok:=fun p h=>(d0.mp h).elim (fun z=>z▸hq) (hp p);cases h with
 |run ps hp r er h=>exact .run _ (ok hp) r (e _ _ er) h
 |opn ps hp tl i t r er h hs=>exact .opn _ (ok hp) tl i t r (e _ _ er) h hs
theorem yD:∀(l:List Nat),(∀c∈l,kT c)→RunT l:=by
 refine jY fun l ih hg=>?_;rcases l with _|⟨c,l⟩
 ·exact .run [] nofun [] rfl nofun
 have hgl:∀c∈l,kT c:=fun y hy=>hg y (.tail _ hy);by_cases h1:c=34
 ·refine aZ (yp l) fun i t e h2 h3=>?_;rw[e] at hgl ih⊢;refine er h1 ?_;refine ar (Cy i h2 fun y hy=>hgl y (A8 _ hy)) fun r hr=>?_;by_cases h4:∃l',t=34::l'
  ·refine ar h4 fun l' e=>?_;rw[e] at hgl ih⊢;exact(ih l' (by rw[c6,b0,c6];lia) fun y hy=>hgl y (k8 _ (.tail _ hy))).add (q:=.s i r) ⟨hr,h2⟩ fun ps tl e=>by rw[Hm,e]
  ·exact .opn [] nofun _ i t r rfl ⟨rfl,hr,h3,h4⟩ h2
 ·by_cases h2:c∈dId
  ·exact(ih l (r5 _) hgl).add (q:=.w c) h2 fun ps tl e=>by rw[e];rfl
  ·exact .run [] nofun (c::l) rfl fun y hy=>c7 hy▸⟨h1,nk h2⟩
theorem BP:∀(l:List Nat),(∀c∈l,kT c)→∃gs f,Tx l gs f:=by
 refine jY fun l ih hg=>?_;rcases l with _|⟨c,l⟩
 ·exact⟨_,_,.nil⟩
 have hgl:∀c∈l,kT c:=fun y hy=>hg y (.tail _ hy);have I:=ih l (r5 _) hgl;by_cases h1:c∈dBl
 ·refine cu I fun gs f h=>?_;exact⟨_,_,.sp h1 h⟩
 by_cases h2:c=59∧l.head?=some 59
 ·obtain⟨e1,h2⟩:=h2;rcases l with _|⟨a,l⟩
  ·exact noS h2
  ·refine aZ (yF l) fun cs r e h3 h4=>?_;rw[e] at ih hgl⊢;refine er e1 (er (c7 h2) ?_);refine cu (ih r ra fun y hy=>hgl y (.tail _ (k8 _ hy))) fun gs f h=>?_;exact⟨_,_,.line h3 h4 h⟩
 by_cases h3:c=40∧l.head?=some 59
 ·obtain⟨e1,h3⟩:=h3;rcases l with _|⟨a,l⟩
  ·exact noS h3
  ·refine eB (zG l 1) fun cs r e e2 h4 h5=>?_;refine er e1 (er (c7 h3) ?_);by_cases he:e=0
   ·rw[e2] at ih hgl⊢;refine cu (ih r ra fun y hy=>hgl y (.tail _ (k8 _ hy))) fun gs f h=>?_;exact⟨_,_,.block (he▸h4) h⟩
   ·rw[e2,h5.resolve_left he,d7];exact⟨_,_,.blockO h4 he⟩
 by_cases h4:c=40∨c=41
 ·refine cu I fun gs f h=>?_;exact⟨_,_,.br h4 h3 h⟩
 by_cases h5:c∈gp
 ·refine cu I fun gs f h=>?_;exact⟨_,_,.lo h5 h2 h⟩
 by_cases h6:c=34∨c∈dId
 ·cases yD (c::l) hg with
  |opn ps p1 tl i t r e p3 p4=>rw[e];exact⟨_,_,.runO p1 p3 p4⟩
  |run ps p1 r e p3=>
   have hne:ps≠[]:=fun z=>by
    rw[z] at e;refine am (p3 c (congrArg List.head? (show r=c::l from e.symm))) fun a b=>?_;rcases h6 with h6|h6
    ·exact a h6
    ·rw[d6.mpr h6] at b;exact noT b.symm
   refine cu (jA hne) fun c' q hq=>?_;rw[e] at ih hg⊢;refine cu (ih r (by rw[hq];exact ra (k:=0)) fun y hy=>hg y (k8 _ hy)) fun gs f h=>?_;exact⟨_,_,.run hne p1 p3 h⟩
 ·refine⟨_,_,.bad ⟨nk h1,nk fun z=>h4 ?_,nk h5,fun z=>h6 (.inl z),nk fun z=>h6 (.inr z)⟩⟩
  simpa using z
theorem FX (l:List Int):∃gs f,Tx (cR (cx l)) gs f:=BP _ (iL l).2.2
end Mine.L
namespace Mine
open PySem PySem.W PyProof.Rows PySem.Calls
variable {B:Bs} {c:FC} {Sp:Nat→aP} {gv:Nat→List Nat} {m:Nat→V} {σ J M2:Sto} {s M0 M8:Shared}
section
set_option maxHeartbeats 4000000
theorem Mx:∃(p1 p2 p3:Pos) (ds:List Expr),(fH 7).map (·.1)=some ⟨[],[⟨"item",none,p1⟩,⟨"sort",none,p2⟩,⟨"text",none,p3⟩],none,[],[],none,ds⟩:=⟨_,_,_,_,rfl⟩
theorem KZ:∃(p1 p2:Pos) (ds:List Expr),(fH 15).map (·.1)=some ⟨[],[⟨"self",none,p1⟩,⟨"many",none,p2⟩],none,[],[],none,ds⟩:=⟨_,_,_,rfl⟩
theorem KU {K:Frag} {s:Shared} {fd:FuncData} {p1 p2 p3:Pos} {ds:List Expr} {T:Addr} {o:Obj} (X:K.In s.heap) (hp:fd.params=⟨[],[⟨"item",none,p1⟩,⟨"sort",none,p2⟩,⟨"text",none,p3⟩],none,[],[],none,ds⟩) (hd:fd.defaults= .ref T) (ho:K.lookup T=some o) (hs:o.data= .seq #[.none]) (v1 v2:Value):
  BindsTo s fd ⟨[v1,v2],[]⟩ [("item",v1),("sort",v2),("text",.none)]:=by
 have e:fd={fd with params:=⟨[],[⟨"item",none,p1⟩,⟨"sort",none,p2⟩,⟨"text",none,p3⟩],none,[],[],none,ds⟩}:=by rw[←hp]
 refine er e ?_;refine binds_K (fd:={fd with params:=_}) X hd ho hs rfl rfl
theorem Hf {K:Frag} {s:Shared} {fd:FuncData} {p1 p2:Pos} {ds:List Expr} {T:Addr} {o:Obj} {v0:Value} (X:K.In s.heap) (hp:fd.params=⟨[],[⟨"self",none,p1⟩,⟨"many",none,p2⟩],none,[],[],none,ds⟩) (hd:fd.defaults= .ref T) (ho:K.lookup T=some o) (hs:o.data= .seq #[v0]) (v1:Value):
  BindsTo s fd ⟨[v1],[]⟩ [("self",v1),("many",v0)]:=by
 have e:fd={fd with params:=⟨[],[⟨"self",none,p1⟩,⟨"many",none,p2⟩],none,[],[],none,ds⟩}:=by rw[←hp]
 refine er e ?_;refine binds_K (fd:={fd with params:=_}) X hd ho hs rfl rfl
theorem He {K:Frag} {s:Shared} {fd:FuncData} {p1 p2:Pos} {ds:List Expr} {T:Addr} {o:Obj} {v0:Value} (X:K.In s.heap) (hp:fd.params=⟨[],[⟨"self",none,p1⟩,⟨"many",none,p2⟩],none,[],[],none,ds⟩) (hd:fd.defaults= .ref T) (ho:K.lookup T=some o) (hs:o.data= .seq #[v0]) (v1 v2:Value):
  BindsTo s fd ⟨[v1,v2],[]⟩ [("self",v1),("many",v2)]:=by
 have e:fd={fd with params:=⟨[],[⟨"self",none,p1⟩,⟨"many",none,p2⟩],none,[],[],none,ds⟩}:=by rw[←hp]
 refine er e ?_;refine binds_K (fd:={fd with params:=_}) X hd ho hs rfl rfl
noncomputable def spT:Nat→aP:=fun g=>([L.gG,L.gG,L.spIsTok,L.iO,L.zZ,L.spTokI,L.spBrI,L.spLexI,L.spHere,L.spStarts,L.spFail,L.spStep,L.spRow,L.spBlock,L.spPoint,L.spEsc,L.spString,L.spRun,L.spWholeL,L.kv,L.spTokens,L.spTrees,L.spIntOf,L.spU32,L.nS,L.uY,L.spMarks,L.fM,L.spWhole',L.spOct,L.kZ,L.qH,L.spPlace,L.spRead,L.spTold,L.spDue,L.Aa,L.spRefused,L.spLawTrees,L.spLaw]:List aP).getD g L.gG
theorem aC {α:Type} {P:α→Prop} {a:α} {l:List α} (h:P a) (h':∀x∈l,P x):∀x∈a::l,P x:=fun x hx=>(d0.mp hx).elim (fun e=>e▸h) (h' x)
theorem aN {α:Type} {P:α→Prop}:∀x∈([]:List α),P x:=nofun
def HF (B:Bs) (e:String×Nat×Nat):Prop:=∃fa,B.mg (PySem.Str.ofString e.1)=some (.ref fa)∧keepIn B.K (.ref fa)=true∧eI B fa e.2.2 (spT e.2.1)
def HM (B:Bs) (e:String×Nat×Nat):Prop:=∃fa,findIn B.K (.ref (B.ca (gm e.2.1))) (PySem.Str.ofString e.1)=some (some (.ref fa))∧typeIn B.K (.ref fa)=some (.type "function")∧keepIn B.K (.ref fa)=true∧eI B fa e.2.2 (spT e.2.1)
def HN (B:Bs) (e:String×Nat×Nat):Prop:=e.2.1<3∧B.mg (PySem.Str.ofString e.1)=some (.ref (B.ca e.2.1))∧keepIn B.K (.ref (B.ca e.2.1))=true∧makesIn B.K (B.ca e.2.1)=true∧∃fa,findIn B.K (.ref (B.ca e.2.1)) "__init__"=some (some (.ref fa))∧typeIn B.K (.ref fa)=some (.type "function")∧eI B fa e.2.2 (spT (lh e.2.1))
theorem Own.inits (O:Own B) {i:Nat} (hi:i<3):∃a,[some (some (.ref 172)),some (some (.ref 94)),some (some (.ref 115))][i]?=some a∧findIn B.K (.ref (B.ca i)) "__init__"=a:=by
 refine ar O.seen fun st e=>?_;have e1:(List.range 3).map (fun i=>findIn B.K (.ref (Mine.ca i)) "__init__")=[some (some (.ref 172)),some (some (.ref 94)),some (some (.ref 115))]:=congrArg Seen.inits e;refine er O.ca (er e1.symm ?_);refine⟨_,?_,rfl⟩;rw[v7,List.getElem?_range hi];rfl
theorem Ah (O:Own B) {n:String} {c l:Nat} {fa a:Addr} {v:Option Value} (hc:c<3) (hg:B.mg (PySem.Str.ofString n)=v) (hv:v=some (.ref a)) (ha:a=Mine.ca c) (hi:∃a,[some (some (.ref 172)),some (some (.ref 94)),some (some (.ref 115))][c]?=some a∧findIn B.K (.ref (B.ca c)) "__init__"=a)
  (hfa:[some (some (Value.ref 172)),some (some (.ref 94)),some (some (.ref 115))][c]?=some (some (some (.ref fa)))) (ht:typeIn B.K (.ref fa)=some (.type "function")) (hf:eI B fa l (spT (lh c))):HN B (n,c,l):=by
 refine aj hi fun a' h1 h2=>?_;rw[hfa] at h1;cases h1;have h:=O.cls hc;simp only[B7] at h;refine av fun gP gO=>?_;obtain⟨_,_,_,_,_,_,_,_,h9,h10⟩:=h;refine gO ?_;exact⟨hc,by rw[hg,hv,ha,O.ca],h9,h10,fa,h2,ht,hf⟩
theorem HP (O:Own B) {n:String} {g l:Nat} {fa:Addr} (hg:gm g=0) (h:findIn B.K (.ref 253) (PySem.Str.ofString n)=some (some (.ref fa))) (hk:keepIn B.K (.ref fa)=true∧typeIn B.K (.ref fa)=some (.type "function")) (hf:eI B fa l (spT g)):HM B (n,g,l):=by
 refine⟨fa,?_,hk.2,hk.1,hf⟩;show findIn B.K (.ref (B.ca (gm g))) _=_;refine er hg (er O.ca ?_);exact h
section
variable (O:Own B) {k i j g lev:Nat} {a:Addr} {n:String} {fns mts news:List (String×Nat×Nat)} {x:S}
 (vars:List (Nat×PySem.Str×Bool)) (h:fG[k]?=some (i,a,.none)) (hd:fH i=some (⟨[],jn i,none,[],[],none,[]⟩,dF i,fV i)) (hx:(fK x (cfg i vars lev fns mts news) (dF i)&&(nr vars (jn i) (fV i)&&gz vars ((jn i).map (·.arg))))=true)
 (hf:∀e∈fns,HF B e) (hm:∀e∈mts,HM B e) (hn:∀e∈news,HN B e) (hl:∀ds σ K KE,spT g ds σ K KE→ds.length=(jn i).length) (hs:∀ds σ K KE,spT g ds σ K KE→L.Wlk spT x ds σ K KE)
include O h hd hx hf hm hn hl hs
theorem Own.fk:eI B a (lev+1) (spT g):=O.fnOk h hd hx (O.wd hf hm hn) hl hs
theorem Own.fo (hg:pU[j]?=some (PySem.Str.ofString n,some (.ref a)):=by rfl):HF B (n,g,lev+1):=⟨a,O.glob hg,(O.keep h (er hd rfl)).1,O.fk vars h hd hx hf hm hn hl hs⟩
theorem Own.mo (hg:pP[j]?=some (PySem.Str.ofString n,a):=by rfl) (hc:gm g=0:=by rfl):HM B (n,g,lev+1):=HP O hc (O.meth hg) (O.keep h (er hd rfl)) (O.fk vars h hd hx hf hm hn hl hs)
end
theorem Own.fnP (O:Own B) {k i:Nat} {a:Addr} {dv:Value} {P:Arguments} (h:fG[k]?=some (i,a,dv)) (hd:(fH i).map (·.1)=some P):fnV B.K a=some (.stmts (dF i),P,fV i,true,dv):=by
 refine av fun gP gO=>?_;refine ar O.seen fun st e=>?_;have e1:fG.map (fun t=>fnV B.K t.2.1)=fG.map fun t=>(fH t.1).map fun d=>(FuncBody.stmts d.2.1,d.1,d.2.2,true,t.2.2):=congrArg Seen.fns e;have e2:=y6.mp e1 _ (v5 h);dsimp only at e2;refine aj (i8.mp hd) fun d hd1 hd2=>?_;refine gO ?_;refine er e2 (er hd1 ?_);unfold dF fV;rw[hd1,←hd2];rfl
theorem Own.dflt (O:Own B):B.K.lookup 130=some {cls:=.type "tuple",data:=.seq #[.none]}∧B.K.lookup 194=some {cls:=.type "tuple",data:=.seq #[.int 1 477]}:=by
 refine av fun gP gO=>?_;refine ar O.seen fun st e=>?_;have eo:[B.K.lookup 58,B.K.lookup 80,B.K.lookup 130,B.K.lookup 194]=[some nM,some (nL B.w.params),some {cls:=.type "tuple",data:=.seq #[.none]},some {cls:=.type "tuple",data:=.seq #[.int 1 477]}]:=congrArg Seen.objs e;refine gO ?_;simp only[z8] at eo;exact⟨eo.2.2.1,eo.2.2.2.1⟩
theorem AX {fa:Addr} {body:List Stmt} {P:Arguments} {sc:Scope} {dv:Value} (hV:fnV B.K fa=some (.stmts body,P,sc,true,dv)) {Γ:Cfg} {Sp:Nat→aP} {gv:Nat→List Nat} (W:Wd B Sp gv Γ) (hn:Γ.names=sc.names) {lev:Nat} (hl:Γ.lev=lev) {as:List Arg} {names:List PySem.Str} (hna:as.map (·.arg)=names)
  (h1:nr Γ.vars as sc=true) {x:S} (hx:fK x Γ body=true) {spec:aP} {fill:List V→List V} {fillv:List Value→List Value}
  (hb:∀(fd:FuncData) (s:Shared) vs ds (Q:Addr→Prop),fd.params=P→fd.defaults=dv→B.K.In s.heap→Rvs B Q s.heap vs ds→(∃σ K KE,spec ds σ K KE)→BindsTo s fd ⟨vs,[]⟩ (names.zip (fillv vs))∧Rvs B Q s.heap (fillv vs) (fill ds)∧(fill ds).length=names.length)
  (h2:gz Γ.vars names=true)
  (hspec:∀ds σ K KE,spec ds σ K KE→vcS Sp gv x (fun i=>(fill ds).getD i .unb) σ (fun _ M1=>K .none M1) K (fun _ _=>False) (fun _ _=>False) (fun _=>KE)):eI B fa (lev+1) spec:=by
 refine av fun gP gO=>?_;obtain⟨o,fd,ho,hdt,e1,e2,e3,e4,k1,k2,k3,k4,k5,k6,k7⟩:=kA hV;rw[←e3] at h1 hn;refine am (ao h1) fun q1 q2=>?_;refine am (ao q2) fun q2 q3=>?_;refine am (ao q2) fun q2 q4=>?_;refine am (ao q4) fun q4 q5=>?_;refine am (ao q3) fun q3 q6=>?_;have nd:=gB q3;rw[hna] at nd;have Vk:VarsC fd Γ.vars:=tc h1;refine gO ?_;refine mr (bind:=fun vs=>names.zip (fillv vs)) (slots:=fun ds i=>(fill ds).getD i .unb) ho hdt k1 e1 Vk (jf q2) k2 k3 k4 (gn q4) (gn q5) (fun s vs ds Q X r k=>?_) hspec fun c hc hh hcw hv hlev ⟨L,hE⟩=>?_
 ·refine cQ (hb fd s vs ds Q e2 e4 X r k) fun b1 b2 b3=>?_;refine⟨b1,fun y hy=>?_,fun y hy=>?_⟩
  ·have:=(List.of_mem_zip hy).1;rw[←hna] at this;refine aj (m5.mp this) fun a ha ea=>?_;have:=j9.mp q6 a ha;rw[ea] at this;exact(bN).symm▸((l8.mp this).imp gK mP)
  ·have:=j9.mp h2 y hy;cases q:names[y.1]? with
   |none=>
    left;have:(fill ds).length≤y.1:=by rw[b3];exact u0.mp q
    show(fill ds).getD y.1 .unb= .unb;rw[n7,u0.mpr this];rfl
   |some n=>
    rw[q] at this;have e:=aO.mp this;right;refine aj (Ar b2 b3 nd q) fun v g1 g2=>?_;exact⟨v,e▸g1,g2⟩
 ·have hk:∀n,c.env.kindOf n=Γ.names.lookup n:=fun n=>by rw[hE,hn];rfl
  exact uc x Γ c body W ⟨hc,fun _=>hh,hv,fun n h=>(hk n).trans h,fun _=>⟨hcw,fun n h=>(hk n).trans h⟩,by rw[hl,hlev];exact f3 _⟩ hx
theorem uJ (O:Own B) {Γ:Cfg} {lev:Nat} (hn:Γ.names=(fV 7).names) (hl:Γ.lev=lev) (hv:Γ.vars=gR) (hx:(fK oz Γ (dF 7)&&(nr gR (jn 7) (fV 7)&&gz gR ["item","sort","text"]))=true) (W:Wd B spT gvT Γ):eI B 137 (lev+1) (spT 2):=by
 refine MI Mx fun p1 p2 p3 ds hP=>?_;refine am (ao hx) fun x1 x2=>?_;refine am (ao x2) fun x2 x3=>?_;have hA:jn 7=[⟨"item",none,p1⟩,⟨"sort",none,p2⟩,⟨"text",none,p3⟩]:=by
  refine aj (i8.mp hP) fun d hd1 hd2=>?_;unfold jn;refine er hd1 ?_;show d.1.args=_;exact er hd2 rfl
 refine AX (names:=["item","sort","text"]) (fill:=L.Ba) (fillv:=fun vs=>vs++[.none]) (O.fnP (k:=5) rfl hP) W hn hl (by rw[hA];rfl) (hv▸x2) x1 (fun fd s vs ds' Q e1 e2 X r k=>?_) (hv▸x3) fun ds σ K KE h=>L.EB (Sp:=spT) h;obtain⟨σ,K,KE,s',w,v,row,col,s2,rfl,-⟩:=k;refine aZ (zP r) fun v v' z a b=>?_;subst z;exact⟨KU X e1 e2 O.dflt.1 rfl _ _,.cons a (.cons b (.cons .none .nil)),rfl⟩
theorem zc (O:Own B) {Γ:Cfg} {lev:Nat} (hn:Γ.names=(fV 15).names) (hl:Γ.lev=lev) (hv:Γ.vars=kl) (hx:(fK iu Γ (dF 15)&&(nr kl (jn 15) (fV 15)&&gz kl ["self","many"]))=true) (W:Wd B spT gvT Γ):eI B 201 (lev+1) (spT 11):=by
 refine av fun gP gO=>?_;refine Ek KZ fun p1 p2 ds hP=>?_;refine am (ao hx) fun x1 x2=>?_;refine am (ao x2) fun x2 x3=>?_;have hA:jn 15=[⟨"self",none,p1⟩,⟨"many",none,p2⟩]:=by
  refine aj (i8.mp hP) fun d hd1 hd2=>?_;unfold jn;refine er hd1 ?_;show d.1.args=_;exact er hd2 rfl
 refine gO ?_;refine AX (names:=["self","many"]) (fill:=L.nZ) (fillv:=fun vs=>match vs with|[v]=>[v,.int 1 477]|vs=>vs) (O.fnP (k:=13) rfl hP) W hn hl (by rw[hA];rfl) (hv▸x2) x1 (fun fd s vs ds' Q e1 e2 X r k=>?_) (hv▸x3) fun ds σ K KE h=>L.IG (Sp:=spT) rfl h;obtain⟨σ,K,KE,M4,d,x,n,fl,k,hds,-⟩:=k;rcases hds with ⟨rfl,-⟩|rfl
 ·refine aj (xX r) fun v z a=>?_;subst z;exact⟨Hf X e1 e2 O.dflt.2 rfl _,.cons a (.cons (.int 1 477) .nil),rfl⟩
 ·refine aZ (zP r) fun v v' z a b=>?_;subst z;exact⟨He X e1 e2 O.dflt.2 rfl _ _,.cons a (.cons b .nil),rfl⟩
theorem qs (O:Own B):HF B ("utf8_of",1,1):=O.fo (j:=5) (k:=2) yf rfl (by kernel_rfl) (by kernel_rfl) aN aN aN (fun _ _ _ _ h=>by obtain⟨_,e,-⟩:=h;rw[e];kernel_rfl) fun _ _ _ _=>L.IC (Sp:=spT)
theorem ry (O:Own B):HN B ("Token",1,1):=Ah O (by decide) (O.glob (k:=2) rfl) rfl rfl (O.inits (i:=1) (by decide)) rfl (O.keep (k:=3) rfl (by kernel_rfl)).2 (O.fk (k:=3) rT rfl (by kernel_rfl) (by kernel_rfl) aN aN aN (fun _ _ _ _ h=>by obtain⟨_,_,_,_,_,_,_,e,-⟩:=h;rw[e];kernel_rfl) fun _ _ _ _=>L.IE (Sp:=spT))
theorem tJ (O:Own B):HN B ("Branch",2,1):=Ah O (by decide) (O.glob (k:=3) rfl) rfl rfl (O.inits (i:=2) (by decide)) rfl (O.keep (k:=4) rfl (by kernel_rfl)).2 (O.fk (k:=4) pD rfl (by kernel_rfl) (by kernel_rfl) aN aN aN (fun _ _ _ _ h=>by obtain⟨_,_,_,_,_,e,-⟩:=h;rw[e];kernel_rfl) fun _ _ _ _=>L.LN (Sp:=spT))
theorem wh (O:Own B):eI B 137 3 (spT 2):=uJ O (Γ:=cfg 7 gR 2 [] [] [("Token",1,1)]) rfl rfl rfl (by kernel_rfl) (O.wd aN aN (aC (ry O) aN))
theorem oN (O:Own B):HF B ("is_token",2,3):=⟨137,O.glob (k:=7) rfl,(O.keep (k:=5) rfl (by kernel_rfl)).1,wh O⟩
theorem jJ (O:Own B):HF B ("whole_of",3,1):=O.fo (j:=8) (k:=6) vE rfl (by kernel_rfl) (by kernel_rfl) aN aN aN (fun _ _ _ _ h=>by obtain⟨_,_,e,-⟩:=h;rw[e];kernel_rfl) fun _ _ _ _=>L.Ep (Sp:=spT)
theorem uK (O:Own B):HF B ("number_in",4,2):=O.fo (j:=9) (k:=7) uq rfl (by kernel_rfl) (by kernel_rfl) (aC (jJ O) aN) aN aN (fun _ _ _ _ h=>by obtain⟨_,e,-⟩:=h;rw[e];kernel_rfl) fun _ _ _ _=>L.LJ (Sp:=spT) rfl
theorem pH (O:Own B):HF B ("sorted_word",19,3):=O.fo (j:=10) (k:=8) pC rfl (by kernel_rfl) (by kernel_rfl) (aC (uK O) aN) aN aN (fun _ _ _ _ h=>by obtain⟨_,_,e,-⟩:=h;rw[e];kernel_rfl) fun _ _ _ _=>L.BA (Sp:=spT) rfl
theorem FM (O:Own B):HN B ("Lexer",0,1):=Ah O (by decide) (O.glob (k:=4) rfl) rfl rfl (O.inits (i:=0) (by decide)) rfl (O.keep (k:=9) rfl (by kernel_rfl)).2 (O.fk (k:=9) rU rfl (by kernel_rfl) (by kernel_rfl) aN aN aN (fun _ _ _ _ h=>by obtain⟨_,_,_,e,-⟩:=h;rw[e];kernel_rfl) fun _ _ _ _=>L.IJ (Sp:=spT))
theorem fy (O:Own B):HM B ("here",8,1):=O.mo (j:=0) (k:=10) BH rfl (by kernel_rfl) (by kernel_rfl) aN aN aN (fun _ _ _ _ h=>by obtain⟨_,_,_,_,e,-⟩:=h;rw[e];kernel_rfl) fun _ _ _ _=>L.IK (Sp:=spT)
theorem oL (O:Own B):HM B ("starts",9,1):=O.mo (j:=1) (k:=11) vG rfl (by kernel_rfl) (by kernel_rfl) aN aN aN (fun _ _ _ _ h=>by obtain⟨_,_,_,_,_,e,-⟩:=h;rw[e];kernel_rfl) fun _ _ _ _=>L.Bz (Sp:=spT)
theorem kC (O:Own B):HM B ("fail",10,1):=O.mo (j:=2) (k:=12) BI rfl (by kernel_rfl) (by kernel_rfl) aN aN aN (fun _ _ _ _ h=>by obtain⟨_,_,_,_,_,_,e,-⟩:=h;rw[e];kernel_rfl) fun _ _ _ _=>L.IL (Sp:=spT)
theorem CX (O:Own B):eI B 201 2 (spT 11):=zc O (Γ:=cfg 15 kl 1 [] [("here",8,1)] []) rfl rfl rfl (by kernel_rfl) (O.wd aN (aC (fy O) aN) aN)
theorem fx (O:Own B):HM B ("step",11,2):=HP O rfl (O.meth (k:=3) rfl) (O.keep (k:=13) rfl (by kernel_rfl)) (CX O)
theorem sx (O:Own B):HM B ("pass_row",12,3):=O.mo (j:=4) (k:=14) rP rfl (by kernel_rfl) (by kernel_rfl) aN (aC (fy O) (aC (fx O) aN)) aN (fun _ _ _ _ h=>by obtain⟨_,_,_,_,_,_,_,e,-⟩:=h;rw[e];kernel_rfl) fun _ _ _ _=>L.LG (Sp:=spT) rfl rfl
theorem pa (O:Own B):HM B ("pass_block",13,3):=O.mo (j:=5) (k:=15) oX rfl (by kernel_rfl) (by kernel_rfl) aN (aC (oL O) (aC (fx O) aN)) aN (fun _ _ _ _ h=>by obtain⟨_,_,_,_,_,_,_,_,e,-⟩:=h;rw[e];kernel_rfl) fun _ _ _ _=>L.EE (Sp:=spT) rfl rfl
theorem pe (O:Own B):HM B ("code_point",14,3):=O.mo (j:=6) (k:=16) oY rfl (by kernel_rfl) (by kernel_rfl) (aC (qs O) (aC (jJ O) aN)) (aC (kC O) (aC (fy O) (aC (fx O) aN))) aN (fun _ _ _ _ h=>by obtain⟨_,_,_,_,_,_,e,-⟩:=h;rw[e];kernel_rfl) fun _ _ _ _=>L.Ew (Sp:=spT) rfl rfl rfl rfl rfl
theorem wo (O:Own B):HM B ("escape",15,4):=O.mo (j:=7) (k:=17) vH rfl (by kernel_rfl) (by kernel_rfl) (aC (jJ O) aN) (aC (pe O) (aC (kC O) (aC (fy O) (aC (fx O) aN)))) aN (fun _ _ _ _ h=>by obtain⟨_,_,_,_,_,_,_,e,-⟩:=h;rw[e];kernel_rfl) fun _ _ _ _=>L.BD (Sp:=spT) rfl rfl rfl rfl rfl
theorem wn (O:Own B):HM B ("string",16,5):=O.mo (j:=8) (k:=18) vF rfl (by kernel_rfl) (by kernel_rfl) (aC (qs O) aN) (aC (wo O) (aC (kC O) (aC (fy O) (aC (fx O) aN)))) aN (fun _ _ _ _ h=>by obtain⟨_,_,_,_,_,_,_,_,e,-⟩:=h;rw[e];kernel_rfl) fun _ _ _ _=>L.By (Sp:=spT) rfl rfl rfl rfl rfl
theorem Gl (O:Own B):HM B ("run",17,6):=O.mo (j:=9) (k:=19) EG rfl (by kernel_rfl) (by kernel_rfl) (aC (pH O) aN) (aC (fy O) (aC (fx O) (aC (wn O) aN))) (aC (ry O) aN) (fun _ _ _ _ h=>by obtain⟨_,_,_,_,_,_,_,_,_,e,-⟩:=h;rw[e];kernel_rfl) fun _ _ _ _=>L.LF (Sp:=spT) rfl rfl rfl rfl rfl
theorem ze (O:Own B):HM B ("whole",18,7):=O.mo (j:=10) (k:=20) yg rfl (by kernel_rfl) (by kernel_rfl) aN (aC (kC O) (aC (fy O) (aC (pa O) (aC (sx O) (aC (Gl O) (aC (oL O) (aC (fx O) aN))))))) (aC (ry O) aN) (fun _ _ _ _ h=>by obtain⟨_,_,_,_,_,_,e,-⟩:=h;rw[e];kernel_rfl) fun _ _ _ _=>L.Bw (Sp:=spT) rfl rfl rfl rfl rfl rfl rfl rfl
theorem oa (O:Own B):HF B ("tokens",20,8):=O.fo (j:=11) (k:=21) BG rfl (by kernel_rfl) (by kernel_rfl) aN (aC (ze O) aN) (aC (FM O) aN) (fun _ _ _ _ h=>by obtain⟨_,_,_,e,-⟩:=h;rw[e];kernel_rfl) fun _ _ _ _=>L.Bx (Sp:=spT) rfl rfl
theorem xC (O:Own B):HF B ("trees",21,9):=O.fo (j:=12) (k:=22) EF rfl (by kernel_rfl) (by kernel_rfl) (aC (oa O) aN) aN (aC (tJ O) aN) (fun _ _ _ _ h=>by obtain⟨_,_,_,e,-⟩:=h;rw[e];kernel_rfl) fun _ _ _ _=>L.Eu (Sp:=spT) rfl rfl
theorem Do (O:Own B):HF B ("int_of",22,4):=O.fo (j:=13) (k:=23) BJ rfl (by kernel_rfl) (by kernel_rfl) (aC (oN O) aN) aN aN (fun _ _ _ _ h=>by obtain⟨_,_,_,_,_,_,e,-⟩:=h;rw[e];kernel_rfl) fun _ _ _ _=>L.EC (Sp:=spT) rfl
theorem Dn (O:Own B):HF B ("u32_of",23,4):=O.fo (j:=14) (k:=24) BE rfl (by kernel_rfl) (by kernel_rfl) (aC (oN O) aN) aN aN (fun _ _ _ _ h=>by obtain⟨_,_,_,_,_,e,-⟩:=h;rw[e];kernel_rfl) fun _ _ _ _=>L.LD (Sp:=spT) rfl
theorem sy (O:Own B):HF B ("_law_pieces",24,1):=O.fo (j:=15) (k:=25) rQ rfl (by kernel_rfl) (by kernel_rfl) aN aN aN (fun _ _ _ _ h=>by obtain⟨e,-⟩:=h;rw[e];kernel_rfl) fun _ _ _ _=>L.BB (Sp:=spT)
theorem wr (O:Own B):HF B ("_law_text",25,2):=O.fo (j:=16) (k:=26) vK rfl (by kernel_rfl) (by kernel_rfl) (aC (sy O) aN) aN aN (fun _ _ _ _ h=>by obtain⟨_,e,-⟩:=h;rw[e];kernel_rfl) fun _ _ _ _=>L.IF (Sp:=spT) rfl
theorem uM (O:Own B):HF B ("_law_marks",26,1):=O.fo (j:=17) (k:=27) uv rfl (by kernel_rfl) (by kernel_rfl) aN aN aN (fun _ _ _ _ h=>by obtain⟨_,_,_,e,-⟩:=h;rw[e];kernel_rfl) fun _ _ _ _=>L.Ez (Sp:=spT)
theorem wq (O:Own B):HF B ("_law_utf8",27,1):=O.fo (j:=18) (k:=28) vJ rfl (by kernel_rfl) (by kernel_rfl) aN aN aN (fun _ _ _ _ h=>by obtain⟨_,e,-⟩:=h;rw[e];kernel_rfl) fun _ _ _ _=>L.EA (Sp:=spT)
theorem mv (O:Own B):HF B ("_law_whole",28,1):=O.fo (j:=19) (k:=29) ur rfl (by kernel_rfl) (by kernel_rfl) aN aN aN (fun _ _ _ _ h=>by obtain⟨_,_,e,-⟩:=h;rw[e];kernel_rfl) fun _ _ _ _=>L.BC (Sp:=spT)
theorem sA (O:Own B):HF B ("_law_octets",29,2):=O.fo (j:=20) (k:=30) rR rfl (by kernel_rfl) (by kernel_rfl) (aC (wq O) (aC (mv O) aN)) aN aN (fun _ _ _ _ h=>by obtain⟨_,_,e,-⟩:=h;rw[e];kernel_rfl) fun _ _ _ _=>L.LH (Sp:=spT) rfl rfl
theorem sC (O:Own B):HF B ("_law_number",30,2):=O.fo (j:=21) (k:=31) rS rfl (by kernel_rfl) (by kernel_rfl) (aC (mv O) aN) aN aN (fun _ _ _ _ h=>by obtain⟨_,_,e,-⟩:=h;rw[e];kernel_rfl) fun _ _ _ _=>L.II (Sp:=spT) rfl
theorem oM (O:Own B):HF B ("_law_ends",31,1):=O.fo (j:=22) (k:=32) vM rfl (by kernel_rfl) (by kernel_rfl) aN aN aN (fun _ _ _ _ h=>by obtain⟨_,e,-⟩:=h;rw[e];kernel_rfl) fun _ _ _ _=>L.IM (Sp:=spT)
theorem mw (O:Own B):HF B ("_law_place",32,1):=O.fo (j:=23) (k:=33) uu rfl (by kernel_rfl) (by kernel_rfl) aN aN aN (fun _ _ _ _ h=>by obtain⟨_,_,e,-⟩:=h;rw[e];kernel_rfl) fun _ _ _ _=>L.Ey (Sp:=spT)
theorem wt (O:Own B):HF B ("_law_read",33,3):=O.fo (j:=24) (k:=34) vL rfl (by kernel_rfl) (by kernel_rfl) (aC (oM O) (aC (uM O) (aC (sC O) (aC (sA O) (aC (mw O) aN))))) aN aN (fun _ _ _ _ h=>by obtain⟨_,_,_,e,-⟩:=h;rw[e];kernel_rfl) fun _ _ _ _=>L.IH (Sp:=spT) rfl rfl rfl rfl rfl
theorem kQ (O:Own B):HF B ("_law_told_number",34,5):=O.fo (j:=25) (k:=35) kO rfl (by kernel_rfl) (by kernel_rfl) (aC (Do O) (aC (Dn O) aN)) aN aN (fun _ _ _ _ h=>by obtain⟨_,_,_,_,_,_,e,-⟩:=h;rw[e];kernel_rfl) fun _ _ _ _=>L.ID (Sp:=spT) rfl rfl
theorem lT (O:Own B):HF B ("_law_due_number",35,1):=O.fo (j:=26) (k:=36) lP rfl (by kernel_rfl) (by kernel_rfl) aN aN aN (fun _ _ _ _ h=>by obtain⟨_,_,_,_,_,_,e,-⟩:=h;rw[e];kernel_rfl) fun _ _ _ _=>L.LL (Sp:=spT)
theorem pf (O:Own B):HF B ("_law_brackets",36,3):=O.fo (j:=27) (k:=37) oZ rfl (by kernel_rfl) (by kernel_rfl) aN aN (aC (tJ O) aN) (fun _ _ _ _ h=>by obtain⟨_,e,-⟩:=h;rw[e];kernel_rfl) fun _ _ _ _=>L.LM (Sp:=spT)
theorem lR (O:Own B):HF B ("_law_is_refused",37,10):=O.fo (j:=28) (k:=38) lO rfl (by kernel_rfl) (by kernel_rfl) (aC (oM O) (aC (mw O) (aC (oa O) (aC (xC O) aN)))) aN aN (fun _ _ _ _ h=>by obtain⟨_,_,_,_,_,e,-⟩:=h;rw[e];kernel_rfl) fun _ _ _ _=>L.ye (Sp:=spT) rfl rfl rfl rfl
theorem uL (O:Own B):HF B ("_law_trees",38,10):=O.fo (j:=29) (k:=39) ut rfl (by kernel_rfl) (by kernel_rfl) (aC (pf O) (aC (xC O) aN)) aN aN (fun _ _ _ _ h=>by obtain⟨_,_,_,e,-⟩:=h;rw[e];kernel_rfl) fun _ _ _ _=>L.vD (Sp:=spT) rfl rfl
theorem Mn (O:Own B):eI B 387 11 (spT 39):=O.fk (k:=40) LQ rfl (by kernel_rfl) (by kernel_rfl) (aC (lT O) (aC (lR O) (aC (wt O) (aC (wr O) (aC (kQ O) (aC (uL O) (aC (oa O) aN))))))) aN aN (fun _ _ _ _ h=>by obtain⟨_,_,_,e,-⟩:=h;rw[e];kernel_rfl) fun _ _ _ _=>L.LK (Sp:=spT) rfl rfl rfl rfl rfl rfl rfl
end
end Mine
section
set_option maxHeartbeats 4000000
namespace Mine
open PySem PySem.W PyProof.Rows PySem.Calls
theorem Gf {P:Params} {h:Heap} {B:Bs} {Q:Addr→Prop}:∀(xs:List WData) (vs:List Value),WShape.hasItems [] xs .int=true→WellAll P h vs xs→∃l:List Int,Rvs B Q h vs (l.map .int)∧l.length=xs.length:=by
 intro zz
 induction zz with
 |nil=>
  intro vs _ w;cases w;exact⟨[],.nil,rfl⟩
 |cons x r ih=>
  intro vs h1 w;simp only[WShape.hasItems,I3] at h1;refine aZ (wellAll_cons_inv w) fun v vs' z2_ wv ws=>?_;subst z2_;refine aj (ih vs' h1.2 ws) fun l hl e=>?_;refine ar (hasW_int h1.1) fun i z1_=>?_;subst z1_;cases wv;exact⟨i::l,.cons (.int i _) hl,by rw[c6,c6,e]⟩
theorem FD {xs:List WData} (h:(OpenLaw.row PySem.Challenge.rw_nm0131_01).pre.holds [] {args:=[.list xs]}=true):xs.length≤ah:=by
 have e:(OpenLaw.row PySem.Challenge.rw_nm0131_01).pre= .and (.not (.lt (.lit (.int 63)) (.len (.arg 0)))) (.lit (.bool true)):=rfl;rw[e] at h;by_cases hx:xs.length≤63
 ·exact b9 hx (by decide+kernel)
 ·have h2:((63:Int)<(xs.length:Int)):=by lia
  simp[WTm.holds,WTm.value,less?,Num.less?,h2] at h
theorem yI (args:List WData):(OpenLaw.row PySem.Challenge.rw_nm0131_01).toRowW.claim.post args (.bool true) args=true:=by
 have e:(OpenLaw.row PySem.Challenge.rw_nm0131_01).post= .eq .res (.lit (.bool true)):=rfl;have e2:(OpenLaw.row PySem.Challenge.rw_nm0131_01).returns= .bool:=rfl;unfold RowW.claim;dsimp only;refine er e (er e2 ?_);simp[WShape.has,WShape.arms,WTm.holds,WTm.value,same]
theorem Md {B:Bs} {s:Shared} (e:B.base=s.heap):Room B callerA [] (fun _=>False) (fun _=>none) s 11:=
 ⟨rfl,fun _ h=>absurd h w8,rfl,rfl,by decide+kernel,by decide+kernel,⟨fun _ _ h=>absurd h (fun h=>by cases h),fun _ h=>absurd rfl h,fun _ h=>absurd rfl h⟩,fun _ h=>False.elim h,fun b o h=>by rw[←e];exact h,trivial⟩
theorem CT {B:Bs} (O:Own B) {w:World} (ew:B.w=w) {cl:PySem.Str→Option Addr} {mean:ExcName→Option Value} {M0:Shared} (e:B.base=M0.heap) (hg:M0.gens= #[]) {args:List WData} {A:Addr} {vs:List Value} {l:List Int} (ho:M0.heap.get? A=some (lstO vs 0)) (hr:Rvs B (Pr (fun _=>none) fun _=>False) M0.heap vs (l.map .int)) (hl:l.length≤ah):
  wpG (model pw w) callerA (PySem.call (.ref 387) [.ref A]) (fun v s'=>GoodWG (OpenLaw.row PySem.Challenge.rw_nm0131_01).toRowW.claim cl mean args M0 (.ok (.ret v)) s')
    (fun e s'=>GoodWG (OpenLaw.row PySem.Challenge.rw_nm0131_01).toRowW.claim cl mean args M0 (.error e) s') M0:=by
 refine av fun gP gO=>?_;refine cu (L.FX l) fun gs f hT=>?_;have k:=Mn O callerA [] (fun _=>False) (fun _=>none) M0 [.ref A] [.lst (l.map .int)] (fun d _=>d= .bool true) (fun _ _ _=>False) (Md e) (.cons (.lst ho ⟨rfl,id⟩ hr (by rw[f7];exact hl)) .nil) ⟨l,gs,f,rfl,hT,fun _=>rfl⟩;rw[O.prog,ew] at k;refine gO ?_;refine bW (bF k fun res s' z=>?_);rcases res with ev|(_|_|_|v)<;>first|exact z.elim|skip
 ·obtain⟨_,_,_,_,_,_,_,_,h⟩:=z;exact h.elim
 ·obtain⟨M1,d,_,n,rv,rfl⟩:=z;have e:_=Value.bool true:=rv.inv;subst e;exact⟨.inl ⟨_,.bool true,[],rfl,fun _=>rfl,.bool true,yI args,fun _=>⟨.nil,fun _ h=>absurd h w8⟩⟩,.of_keep fun b o hb=>n.ev.same b o hb (fun h=>h rfl) (fun h=>by obtain⟨_,hm,_⟩:=h;cases hm),n.same.2.1,.of_eq (n.same.1.trans hg)⟩
theorem DN:vv mz eD (fun _ _=>True) YPm (OpenLaw.row PySem.Challenge.rw_nm0131_01).toRowW qQ []:=by
 intro w MW M0 mg mb G Y a o pm cd doc dV kV _ _ _ _ ha hg args vals as hp _ hr hw _;refine sO (Jq G Y) fun B O eb ew em=>?_;have e1:B.mg "law"=some (.ref 387):=O.glob (k:=30) rfl;rw[em] at e1;have e2:some (Value.ref a)=some (.ref 387):=ha.symm.trans e1;cases e2;obtain⟨h1,h2⟩:=pre_splitW hp;refine aZ (hasAllW_cons h1) fun d r z2_ hd hr'=>?_;subst z2_;have:=hasAllW_nil hr';subst this;refine aj (hasW_list hd) fun xs z1_ hi=>?_;subst z1_;have hl:=FD h2;refine aZ (wellAll_cons_inv hw) fun v vs' z2_ wv ws=>?_;subst z2_;cases ws;cases wv with
 |list ho wl=>
  refine aj (Gf (B:=B) (Q:=Pr (fun _=>none) fun _=>False) xs _ hi wl) fun l hr el=>?_;exact CT O ew eb hg ho hr (el▸hl)
end Mine
end
theorem PySem.Challenge.cw_nm0131_01_holds : PySem.Challenge.rw_nm0131_01.Holds :=
  Mine.Dh Mine.DN
