import PyProof.Rows.All
import Wide.All
import OpenK.AllK
import Wide.FinOn
import Lean
import PySem.Challenge.RW_rg0124_01
open And renaming intro → A0
open PySem renaming wpAny_bind → A1, wpAny_pure → A5, wpAny_holding → D4, wpAny_call_entry → H9, wpAny_newObj_type → J0, wpAny_mono → J8, wpAny_callSpecial?_slot → K8, wpAny_setState_of → L7, sizeLine_eq → M0, wpAny_setField → O6, codeAny_builtin → O7, wpAny_standAt → O8, wpAny_truthy_bool → P9, wpAny_rule → Q6, wpAny_seqItems → Q8, wpAny_askSetting → T6, wpAny_specialOf → V2, wpAny_updateSeq → V5, wpAny_field → V9, plainId_quiet → W0, wpAny_isInstance → W3, wpAny_setField_rec → W9, wpAny_dictEntries → Y7, wpAny_typeNameOfWhole_keyiter → b4, wpAny_pyIter_tuple → b5, wpAny_Constant_int → b9, wpAny_notOrdered_dict → f6, wpAny_typeOf → i1, wpAny_typeNameOf_keyiter → j1, typeIs_str → j8, Builtin → m9, wpAny_sequenceKey → o0, wpAny_pyNext_list_item → o5, wpAny_pyIter_list → o6, wpAny_newTuple → o8, wpAny_pyIter_enum → o9, wpAny_pyNext_list_end → r8, builtinLookup_eq_fast → r9, wpAny_forIn_list → t6, wpAny_attempt → u7, wpAny_updateDictKeys → y9, wpAny_letGo → Ak, wpAny_of_eq → An
open Nat renaming le_trans → A3, le_of_ble_eq_true → A6, lt_of_lt_of_le → A9, succ_le_succ → B1, le_refl → B2, le_of_eq → B3, add_le_add_left → B7, le_add_right → C0, lt_of_le_of_lt → C2, le_add_left → D5, le_of_succ_le_succ → D6, le_of_lt → D9, zero_le → E2, ne_of_lt → E4, le_of_lt_succ → E6, le_succ_of_le → E7, le_of_succ_le → E8, eq_of_beq_eq_true → F6, add_le_add_right → G3, not_lt → G4, succ_add_eq_add_succ → G6, lt_succ_self → G7, beq → H7, zero_add → I0, lt_succ_of_le → I7, ne_of_gt → J6, ble → K0, succ_pos → L0, le_antisymm → L9, add_assoc → M2, lt_succ_of_lt → M5, ble_eq_true_of_le → M8, lt_add_of_pos_right → N0, add_right_comm → N5, lt_irrefl → N9, lt_of_succ_lt_succ → O3, le_succ → O9, lt_of_le_of_ne → P3, not_succ_le_self → P6, add_comm → P7, sub_add_cancel → Q5, beq_refl → R7, min_le_left → R9, succ_lt_succ → T7, lt_trans → U0, mul_le_mul_right → U7, add_le_add → U8, add_sub_cancel_left → V0, succ_pred_eq_of_pos → V1, not_lt_zero → V6, zero_lt_of_lt → Y8, not_succ_le_zero → Z2, lt_one_iff → a7, not_le → b7, lt_or_eq_of_le → c5, succ → c9, succ_le_of_lt → f7, add_sub_of_le → g6, add_lt_add_left → i5, mul_le_mul_left → i8, eq_or_lt_of_le → k9, le_mul_of_pos_left → p7, le_of_sub_eq_zero → s7, add_lt_of_lt_sub' → t5, min_le_right → t8, add → w9, two_pos → y7, add_lt_add_right → y8, le_zero → AA, lt_or_ge → AQ, sub_self → AR, sub_le → AW, lt_of_lt_of_eq → AY, rec → Aq
open List renaming length_map → A4, length_append → A7, mem_singleton → A8, getElem?_eq_getElem → B4, mem_map → B5, getElem?_eq_some_iff → B6, mem_append_right → B8, mem_of_getElem? → B9, mem_cons → C4, mem_append → C5, mem_append_left → D0, append_nil → D8, all_eq_true → E0, append_assoc → E5, getElem?_map → G0, map_map → G2, map_append → G5, mem_map_of_mem → H1, map_congr_left → H4, size_toArray → H5, mem_flatMap → H6, rec → I8, drop_eq_getElem_cons → J1, findIdx?_eq_some_iff_getElem → J4, getElem?_append_left → J7, range → J9, length_cons → K9, toArray → M1, getElem_map → M4, flatMap_cons → M6, getElem_mem → N2, nodup_nil → N4, length_eq_zero_iff → N8, length_set → O4, nodup_cons → O5, length_range → P0, getD_eq_getElem?_getD → P5, map_cons → Q2, of_mem_zip → Q4, take_of_length_le → Q9, drop_zero → R1, pairwise_map → R4, getElem?_append_right → R6, length → T0, take_append_drop → T4, append_cons → T8, map_eq_nil_iff → V7, getElem?_concat_length → V8, ext_getElem → W4, findIdx?_cons → W6, length_mapIdx → W8, mem_range → X0, findIdx?_eq_none_iff → Y3, forIn_cons → Y4, getElem?_of_mem → Y5, nodup_append → Y6, take_succ_eq_append_getElem → Y9, idxOf_lt_length_iff → Z6, flatMap_append → Z8, lookup_cons → a0, pairwise_singleton → a9, flatMap_def → b0, pairwise_cons → c6, map_id → g8, pairwise_append → i0, pairwise_iff_getElem → i4, length_flatMap → i7, find?_cons → j4, length_zip → j7, filter_append → l6, getElem?_set_self → n5, drop_of_length_le → n6, forIn_nil → o7, ext_getElem? → p6, flatMap_singleton → p9, getElem?_set → q9, append_eq_nil_iff → r0, getElem?_toArray → s0, length_filter_le → s9, set_append_right → t0, set_getElem_self → t4, mem_reverse → u6, drop_eq_nil_iff → AB, getElem?_mapIdx → AD, mem_filter → AG, toList_toArray → AJ, length_take_le → AK, length_reverse → AL, getElem_of_mem → AM, filterMap_cons → AN, flatMap → AS, map_set → AT, mem_filterMap → AZ, zip_cons_cons → Aa, getElem_idxOf → Ab, getElem_range → Ac, append_of_mem → Af, pairwise_pair → Ag, reverse_cons → Al, findIdx? → As, sum_cons → Au, set_set → Ax, all → BA
open PySem.Heap renaming get?_push_size → B0, get?_update_self → F4, lt_size → G1, size_push → H8, SameBut → K5, ExtBut → U3, get?_update_ne → Z7
open Array renaming length_toList → C3, getElem?_toList → D7, getElem?_eq_getElem → J2, getElem?_eq_some_iff → M7, getElem?_eq_none → O0, getElem?_eq_none_iff → P4, getD_eq_getD_getElem? → Q7, mem_toList_iff → U2, toList_push → U9, size_push → V4, forIn_toList → b6, perm_iff_toList_perm → g9, mem_of_getElem? → s6, toList_inj → t9, toList_append → AH
open Int renaming natCast_nonneg → C6, le_refl → H3, ofNat_lt → K4, toNat_natCast → N3, le_trans → N7, ofNat_le → T9, lt_of_le_of_lt → W5, add_le_add_right → Z4, add_assoc → j0, not_lt → j9, add_sub_cancel → l7, toNat → m4, lt_iff_le_and_ne → AC
open PySem.Str renaming ofString → C7, empty → Z9
open PySem.Heap.SameBut renaming update → C9
open Bool renaming false_ne_true → D3, and_eq_true_iff → E3, noConfusion → H0, rec → I6, or_eq_true_iff → R8, and_eq_true → T5, xor_false → W7, beq_eq_decide_eq → f5, not_eq_true' → g7, xor_true → i9, not_eq_true → t7, true_and → u9
open Exists renaming imp → E9, elim → U1, intro → Az
open PySem.Obj renaming mapSeq → G8, data_mapFields → k8, mapFields → u8, putName → Am
open Option.some renaming inj → G9
open PySem.SetTable renaming below → H2, insertAt → L6, Probe → U5, grown → U6, bits → W1, standIn → u4, runEnd → AF, probeStart → AO, probe → Ad, has → Ay
open PySem.Value renaming none → I5, type → Ae, int → Av
open Option renaming map_eq_some_iff → I9, map → V3, rec → Y0
open PySem.PyData renaming strOk → J3, keyHash → U4, eqv → AU
open PySem.AutoSeq1 renaming wpAny_loadPart' → J5
open Int.ofNat renaming inj → L8
open PySem.Around renaming under_plainId → M3
open Classical renaming propDecidable → M9
open Ne renaming symm → N6
open PySem.F renaming plain_extend_loop → P8, slot_list_extend → b8, called_set → c7, slot_dict_keyiterator_next → c8, plainAttrs_list → f9, entry_extend_loop → i6, args_object_init_2 → z5, slot_str_contains → AI
open Nat.succ renaming inj → Q3
open PySem.SetTable.probe renaming go → R5
open List.cons renaming inj → W2
open PySem.Builtin.Tuple renaming tupleExact → Z5, tupleCompareSizes → r6, tupleItemsOf → AV, tupleHashOf → Ah
open PySem.MeetsSeq3 renaming plain_eq_loop → a8
open PyProof.Rows renaming listUpdate_at → e9, spliced_more → i3, get?_update_seq → j6, spliced_none → n7, tail_any → z6, Subscript_ → AX, seqEpoch_at → Ao
open Iff renaming rfl → f8
open PySem.Builtin.SmallTypes renaming ownedTupleIsFree → j2
open PySem.Builtin.List renaming listSameRef → j3, listExtendWith → AP
open ForInStep renaming yield → j5
open PySem.Heap.IsSliceOf renaming new → k6
open PySem.Builtin.Str renaming occurrences → m0
open PySem.Builtin.Range renaming rangeSize → m5
open PyProof.Rows.F renaming plain_set_update_loop → m6
open PySem.W renaming callWith_of → z9
open PySem.Unicode renaming isSpace → AE
open PySem.Builtin.Slice renaming sliceAdjust → Ai, slicePlaces → Aj
open PySem.SetTable.below renaming go → Ap
open PySem.Shared renaming TypeIs → Ar
open PySem.DictEntry renaming refKey → Aw
open PySem PySem.W PyProof.Rows
set_option Elab.async false
set_option maxHeartbeats 4000000
set_option linter.unusedVariables false
set_option tactic.hygienic false
set_option bootstrap.genMatcherCode false
namespace Mine.Internal
set_option backward.match.sparseCases false
section
variable {p q r s t u c:Prop}
theorem an2 (h:p∧q) (f:p→q→c):c:=f h.1 h.2
theorem an3 (h:p∧q∧r) (f:p→q→r→c):c:=f h.1 h.2.1 h.2.2
theorem an4 (h:p∧q∧r∧s) (f:p→q→r→s→c):c:=f h.1 h.2.1 h.2.2.1 h.2.2.2
theorem an5 (h:p∧q∧r∧s∧t) (f:p→q→r→s→t→c):c:=f h.1 h.2.1 h.2.2.1 h.2.2.2.1 h.2.2.2.2
end
section
universe u1
variable {α:Sort u1} {c:Prop} {p q r s:α→Prop}
theorem ex1 (h:∃x,p x) (f:∀x,p x→c):c:=h.elim f
theorem BD (h:∃x,p x∧q x) (f:∀x,p x→q x→c):c:=h.elim fun x h=>f x h.1 h.2
theorem Bo (h:∃x,p x∧q x∧r x) (f:∀x,p x→q x→r x→c):c:=h.elim fun x h=>f x h.1 h.2.1 h.2.2
theorem xa14 (h:∃x,p x∧q x∧r x∧s x) (f:∀x,p x→q x→r x→s x→c):c:=h.elim fun x h=>f x h.1 h.2.1 h.2.2.1 h.2.2.2
end
section
universe u1 u2
variable {α:Sort u1} {β:Sort u2} {c:Prop} {p q r s:α→β→Prop}
theorem ex2 (h:∃x y,p x y) (f:∀x y,p x y→c):c:=h.elim fun x h=>h.elim (f x)
theorem CU (h:∃x y,p x y∧q x y) (f:∀x y,p x y→q x y→c):c:=h.elim fun x h=>BD h (f x)
theorem CE (h:∃x y,p x y∧q x y∧r x y) (f:∀x y,p x y→q x y→r x y→c):c:=h.elim fun x h=>Bo h (f x)
theorem DJ (h:∃x y,p x y∧q x y∧r x y∧s x y) (f:∀x y,p x y→q x y→r x y→s x y→c):c:=h.elim fun x h=>xa14 h (f x)
end
section
universe u1 u2 u3
variable {α:Sort u1} {β:Sort u2} {γ:Sort u3} {c:Prop} {p q r s:α→β→γ→Prop}
theorem ex3 (h:∃x y z,p x y z) (f:∀x y z,p x y z→c):c:=h.elim fun x h=>ex2 h (f x)
theorem xa32 (h:∃x y z,p x y z∧q x y z) (f:∀x y z,p x y z→q x y z→c):c:=h.elim fun x h=>CU h (f x)
theorem Dw (h:∃x y z,p x y z∧q x y z∧r x y z) (f:∀x y z,p x y z→q x y z→r x y z→c):c:=h.elim fun x h=>CE h (f x)
end
universe u1
@[elab_as_elim] theorem wg {α:Sort u1} {a b:α} (h:a=b) {p:α→Prop} (x:p b):p a:=h▸x
@[elab_as_elim] theorem wh {α:Sort u1} {a b:α} (h:a=b) {p:α→Prop} (x:p a):p b:=h▸x
theorem up {a m n:Nat} (h:a≤m) (e:K0 m n=true):a≤n:=A3 h (A6 e)
theorem upl {a m n:Nat} (h:a<m) (e:K0 m n=true):a<n:=A9 h (A6 e)
theorem un {a m n c:Nat} (h:a+m<c) (e:K0 n m=true):a+n<c:=C2 (B7 (A6 e) a) h
theorem un1 {a m n c:Nat} (h:a+m<c) (e:K0 (1+n) m=true):a+1+n<c:=by
 refine wg (M2 ..) ?_;exact un h e
theorem un2 {a m n c:Nat} (h:a+m<c) (e:K0 (1+(1+n)) m=true):a+1+1+n<c:=by
 refine wg (M2 ..) (wg (M2 ..) ?_);exact un h e
theorem i63 {n:Nat} (h:n≤4096):(n:Int)<2^63:=W5 (T9.mpr h) (by decide)
theorem i63' {n:Nat} (h:n≤4096):¬(n:Int)≥2^63:=Int.not_le.mpr (i63 h)
theorem ixn {i:Int} {n:Nat} (h0:0≤i) (h:i.toNat<n):i<n:=W5 (Int.le_of_eq (Int.toNat_of_nonneg h0).symm) (K4.mpr h)
theorem ix63 {i:Int} {n:Nat} (h0:0≤i) (h:i.toNat<n) (z:n≤4096):i<2^63:=Int.lt_trans (ixn h0 h) (i63 z)
theorem ixm {i:Int} (h0:0≤i):-2^63≤i:=N7 (by decide) h0
theorem nab {i:Int} (q:0≤i∧i<1000000):i.natAbs<2^20:=K4.mp (by refine wg (Int.natAbs_of_nonneg q.1) ?_;exact Int.lt_trans q.2 (by decide))
theorem drop {a k c:Nat} (h:a+k<c):a<c:=C2 (C0 _ _) h
theorem unk {a m n k c:Nat} (h:a+m+k<c) (e:K0 n m=true):a+n+k<c:=C2 (G3 (B7 (A6 e) a) k) h
theorem un1k {a m n k c:Nat} (h:a+m+k<c) (e:K0 (1+n) m=true):a+1+n+k<c:=by
 rw[M2 a];exact unk h e
theorem unm {a n c:Nat} (h:a+100+2*(n+1)<c):a+102+2*n<c:=by
 rw[Nat.mul_succ,P7 (2*n) 2,←M2] at h;exact h
theorem dp {a n:Nat} (h:a+3*(n+1)≤990):a+1+3*n≤990:=by
 rw[Nat.mul_succ] at h
 refine A3 ?_ h
 refine wg (M2 ..) ?_;rewrite[P7 1];exact B7 (B7 (by decide) _) _
theorem du {a n k c m:Nat} (h:a+15*(n+1)+k≤c) (e:m≤15):a+m+15*n+k≤c:=by
 refine A3 (G3 ?_ k) h
 refine wg (Nat.mul_succ ..) (wg (M2 ..) ?_);rewrite[P7 m];exact B7 (B7 e _) _
theorem du2 {a n c:Nat} (h:a+15*(n+1)+200≤c):a+3+15*n+202≤c:=by
 have q:=du (m:=5) h (by decide)
 refine wg (show a+3+15*n+202=a+5+15*n+200 from by rw[N5 a 3,N5 a 5]) ?_;exact q
theorem mid_lo {l r:Nat} (h:l≤r):l≤(l+r)/2:=(Nat.le_div_iff_mul_le y7).mpr (by refine wg (Nat.mul_two ..) ?_;exact B7 h l)
theorem mid_hi {l r:Nat} (h:l<r):(l+r)/2<r:=(Nat.div_lt_iff_lt_mul y7).mpr (by refine wg (Nat.mul_two ..) ?_;exact y8 h r)
theorem wi {w:Nat} (h:5≤w∧w≤7):(w:Int)≤4096:=T9.mpr (up h.2 rfl)
theorem w1 {w:Nat} (h:5≤w∧w≤7):(w:Int) - 1=((w - 1:Nat):Int):=(Int.ofNat_sub (A3 (by decide) h.1)).symm
theorem w0 {w:Nat} (h:5≤w∧w≤7):0<w - 1:=Nat.sub_pos_of_lt (A9 (by decide) h.1)
theorem ilt6 {n:Nat} (h:n+1≤60):0≤(n:Int)∧(n:Int)<1000000:=⟨C6 _,K4.mpr (upl h rfl)⟩
theorem pm1 {n m:Nat} (h:n+1≤m):m=m - 1+1:=(Q5 (A3 (D5 1 n) h)).symm
theorem runs_size {M:Model} {Γ:Ctx} {p:Pos} {t:Sem Fin} {fs:List Frame} {s s':Shared} {e:End} (h:Runs M Γ p t fs s e s'):s.heap.objs.size≤s'.heap.objs.size:=by
 induction h <;> (try simp only[Shared.setGen,H8,(C9 _ _ _).1] at*) <;> solve_by_elim (maxDepth:=4) [A3,D9,A9,C2,E8,f7,B2]
theorem wakes_size {M:Model} {Γ:Ctx} {p:Pos} {g:Nat} {r:Resume} {s s':Shared} {res:GenResult} (h:Wakes M Γ p g r s res s'):s.heap.objs.size≤s'.heap.objs.size:=by
 unfold Wakes at h
 split at h
 ·exact h.elim
 ·split at h
  ·refine DJ h fun e₁ s₁ hr zz zz hh5=>?_;clear h;obtain rfl:=hh5;exact (runs_size hr:(s.setGen g .running).heap.objs.size≤s₁.heap.objs.size)
  ·refine wg h.2 ?_;exact B2 _
  ·refine wg h.2 ?_;exact B2 _
 ·refine DJ h fun e₁ s₁ hr zz zz hh5=>?_;clear h;obtain rfl:=hh5;exact (runs_size hr:(s.setGen g .running).heap.objs.size≤s₁.heap.objs.size)
 ·refine wg h.2 ?_;exact B2 _
 ·refine wg h.2 ?_;exact B2 _
theorem wp_size {α:Type} (M:Model) (Γ:Ctx) (n:Nat) (t:Sem α):∀(Q:α→Pos→Shared→Prop) (E:Value→Pos→Shared→Prop) (p:Pos) (s:Shared),n≤s.heap.objs.size→Sem.wp M Γ t Q E p s→
  Sem.wp M Γ t (fun a p' s'=>n≤s'.heap.objs.size∧Q a p' s') (fun e p' s'=>n≤s'.heap.objs.size∧E e p' s') p s:=by
 induction t with
 | pure a=>intro Q E p s hn h;exact ⟨hn,h⟩
 | raise e=>intro Q E p s hn h;exact ⟨hn,h⟩
 | unsupported _=>intro Q E p s _ h;exact h
 | finish _=>intro Q E p s _ h;exact h
 | rule _ k ih=>intro Q E p s hn h;exact ih () Q E p s hn h
 | «at» p' k ih=>intro Q E p s hn h;exact ih () Q E p' s hn h
 | load a _ k ih=>intro Q E p s hn h;obtain ⟨o,ho,h⟩:=h;exact ⟨o,ho,ih o Q E p s hn h⟩
 | update a _ f k ih=>intro Q E p s hn h;exact ⟨h.1,ih () Q E p _ (by simpa [(C9 _ _ _).1] using hn) h.2⟩
 | loadIfAlive a k ih=>intro Q E p s hn h;exact ih _ Q E p s hn h
 | point _ k ih=>intro Q E p s hn h;exact ih () Q E p s hn h
 | register _ _=>intro Q E p s _ h;exact h
 | alloc o k ih=>intro Q E p s hn h;exact ih _ Q E p _ (by simp only[H8];solve_by_elim (maxDepth:=4) [A3,D9,A9,C2,E8,f7,B2]) h
 | fresh k ih=>intro Q E p s hn h;exact ih _ Q E p _ hn h
 | ask k ih=>intro Q E p s hn h;exact ih _ Q E p s hn h
 | choose src m k ih=>intro Q E p s hn h;exact ⟨h.1,ih _ Q E p _ hn h.2⟩
 | os q _ k ih=>intro Q E p s hn h;exact ih _ Q E p _ hn h
 | call c hd _ _ k ih=>intro Q E p s hn h;obtain ⟨r,s',hr,h⟩:=h;exact ⟨r,s',hr,ih r Q E p s' (A3 hn (runs_size hr)) h⟩
 | handled own k ih=>intro Q E p s hn h;exact ih _ Q E p s hn h
 | genState g k ih=>intro Q E p s hn h;obtain ⟨st,hs,h⟩:=h;exact ⟨st,hs,ih _ Q E p s hn h⟩
 | newGen c k ih=>intro Q E p s hn h;exact ih _ Q E p _ hn h
 | resume g r _ k ih=>intro Q E p s hn h;obtain ⟨res,s',hw,h⟩:=h;exact ⟨res,s',hw,ih res Q E p s' (A3 hn (wakes_size hw)) h⟩
 | yield _ _ _ _=>intro Q E p s _ h;exact h
 | stack k ih=>intro Q E p s hn h;exact ih _ Q E p s hn h
 | fork _ _=>intro Q E p s _ h;exact h
 | thread k ih=>intro Q E p s hn h;exact ih _ Q E p s hn h
 | await _ _ _ _ _=>intro Q E p s _ h;exact h
theorem wpAny_size {α:Type} {M:Model} {A:Around} {s:Shared} {t:Sem α} {Q:α→Shared→Prop} {E:Value→Shared→Prop}
  (h:wpAny M A t (fun a s'=>s.heap.objs.size≤s'.heap.objs.size→Q a s') E s):wpAny M A t Q E s:=
 fun Γ p hΓ=>Sem.wp_mono M Γ t (fun a p' s' h=>h.2 h.1) (fun e p' s' h=>h.2) p s (wp_size M Γ _ t _ _ p s (B2 _) (h Γ p hΓ))
@[reducible] noncomputable def CY (us:Array Value):Obj:={cls:= .type "tuple",data:= .seq us}
@[reducible] noncomputable def FO (f:Value) (b:Bool) (TI TO:Addr):Obj:={cls:= .type "zip",data:= .fields #[f,.bool b,.bool false,.ref TI,.ref TO]}
theorem pure_any {prog:Program} {w:World} {A:Around} {E:Value→Shared→Prop} {s:Shared} {α:Type} {c:α} {Q:α→Shared→Prop} (h:∀b,Q b s):wpAny (model prog w) A (pure c) Q E s:=A5 (h c)
theorem Hd (l:Addr) (items:Array Value):
  Meets (m9.«enumerate.__new__» ⟨[.type "enumerate",.ref l],[]⟩) (fun zz R s=>s.heap.get? l=some (CY items)∧
   R (.ok (.ret (.ref (s.heap.push {cls:= .type "tuple_iterator",data:= .fields #[.ref l,.int 0 0]}).objs.size)))
    {s with heap:=(s.heap.push {cls:= .type "tuple_iterator",data:= .fields #[.ref l,.int 0 0]}).push {cls:= .type "enumerate",data:= .fields #[.none,.bool false,.ref s.heap.objs.size,rawInt 0,.none,.none]}}):=
 .of_wp fun prog w A R s h=>by
  obtain ⟨hp,g,d,tk,os⟩:=s;obtain ⟨hl,h⟩:=h
  have hsub:=sub_enumerate
  have hL:Heap.IsTuple (Shared.heap ⟨hp,g,d,tk,os⟩) l items:=⟨_,hl,rfl,0,rfl⟩
  wp_walk
  refine wpAny_stack_any fun st=>pure_any fun b=>?_
  cases b
  ·wp_walk using b5 hL
   exact ⟨_,rfl,h⟩
  ·wp_walk using b5 hL
   exact ⟨_,rfl,h⟩
@[reducible] noncomputable def tupI (a:Addr):Obj:={cls:= .type "tuple_iterator",data:= .fields #[.ref a,.int 0 0]}
@[reducible] noncomputable def lstI (a:Addr):Obj:={cls:= .type "list_iterator",data:= .fields #[.ref a,.int 0 0]}
@[reducible] noncomputable def zh2 (h:Heap) (a b:Addr):Heap:=(h.push (tupI a)).push (tupI b)
@[reducible] noncomputable def zh3 (h:Heap) (a b:Addr):Heap:=(zh2 h a b).push (CY #[.ref h.objs.size,.ref (h.push (tupI a)).objs.size])
@[reducible] noncomputable def zh4 (h:Heap) (a b:Addr):Heap:=(zh3 h a b).push (CY #[.none,.none])
@[reducible] noncomputable def zh5 (h:Heap) (a b:Addr):Heap:=(zh4 h a b).push (FO .none false (zh2 h a b).objs.size (zh3 h a b).objs.size)
theorem zip_new_tup (l1 l2:Addr) (xs ys:Array Value):Meets (m9.«zip.__new__» ⟨[.type "zip",.ref l1,.ref l2],[]⟩) (fun zz R s=>s.heap.IsTuple l1 xs∧s.heap.IsTuple l2 ys∧R (.ok (.ret (.ref (zh4 s.heap l1 l2).objs.size))) {s with heap:=zh5 s.heap l1 l2}):=
 .of_wp fun prog w A R s h=>by
  obtain ⟨hp,g,d,tk,os⟩:=s;obtain ⟨hl1,hl2,h⟩:=h
  have hsub:=sub_zip
  have hL1:Heap.IsTuple (Shared.heap ⟨hp,g,d,tk,os⟩) l1 xs:=hl1
  have hL2:Heap.IsTuple (Shared.heap ⟨hp.push (tupI l1),g,d,tk,os⟩) l2 ys:=Heap.IsTuple.push hl2 _
  wp_walk using b5 hL1,b5 hL2
  exact ⟨_,rfl,h⟩
set_option genSizeOf false
inductive V where
 | none
 | bool (b:Bool)
 | int (i:Int)
 | str (s:Str)
 | tup (l:List V)
 | lst (l:List V)
 | loc (n:Nat)
 | gl (v:Value)
set_option genInjectivity false
noncomputable instance:DecidableEq V:=fun zz zz=>M9 _
noncomputable def V.ok (b:Bool):Nat→V→Bool
 | _,.int _=>true
 | _,.str s=>J3 s
 | n+1,.tup l=>l.all (V.ok b n)
 | n+1,.lst l=>b&&l.all (V.ok b n)
 | _,_=>false
theorem V.okI {b:Bool} {P:Nat→V→Prop} (int:∀n i,P n (.int i)) (str:∀n s,J3 s=true→P n (.str s)) (tup:∀n l,l.all (V.ok b n)=true→(∀v∈l,P n v)→P (n+1) (.tup l))
  (lst:∀n l,b=true→l.all (V.ok b n)=true→(∀v∈l,P n v)→P (n+1) (.lst l)):∀n v,V.ok b n v=true→P n v:=by
 intro n
 induction n with
 | zero=>
  intro v k
  cases v with
  | int i=>exact int _ i
  | str s=>exact str _ s k
  | _=>exact absurd k D3
 | succ n ih=>
  intro v k
  cases v with
  | int i=>exact int _ i
  | str s=>exact str _ s k
  | tup l=>exact tup n l k fun v h=>ih v (E0.mp k v h)
  | lst l=>exact have k':=E3.mp k;lst n l k'.1 k'.2 fun v h=>ih v (E0.mp k'.2 v h)
  | _=>exact absurd k D3
theorem V.ok_up {b c:Bool} (hbc:b=true→c=true):∀n v,V.ok b n v=true→∀m,n≤m→V.ok c m v=true:=
 V.okI (fun zz zz m zz=>by cases m <;> rfl) (fun zz zz h m zz=>by cases m <;> exact h) (fun n l k ih m h=>match m,h with
  | m+1,h=>E0.mpr fun v hv=>ih v hv m (D6 h)) fun n l e k ih m h=>match m,h with
  | m+1,h=>E3.mpr ⟨hbc e,E0.mpr fun v hv=>ih v hv m (D6 h)⟩
mutual
noncomputable def V.pd:V→PyData
 | .bool b=>.bool b
 | .int i=>.int i
 | .str s=>.str s
 | .tup l=>.tuple (V.pds l)
 | .lst l=>.list (V.pds l)
 | _=>.none
noncomputable def V.pds:List V→List PyData
 | []=>[]
 | v::r=>v.pd::V.pds r
end
structure Rho where
 l:List Addr
 p:List Addr
@[reducible] noncomputable def Rho.ni (ρ:Rho) (a:Addr):Prop:=a∉ρ.l∧a∉ρ.p
@[reducible] noncomputable def BL (us:Array Value) (n:Nat):Obj:={cls:= .type "list",data:= .seq us n}
mutual
noncomputable def RV (h:Heap) (ρ:Rho):V→Value→Prop
 | .none,u=>u= .none
 | .bool b,u=>u= .bool b
 | .int i,u=>∃t,u= .int i t
 | .str s,u=>∃t,u= .str s t
 | .tup l,u=>∃a us,u= .ref a∧(h.get? a=some (CY us)∧ρ.ni a)∧RVs h ρ l us.toList
 | .lst l,u=>∃a us n,u= .ref a∧(h.get? a=some (BL us n)∧ρ.ni a)∧RVs h ρ l us.toList
 | .loc i,u=>∃a,u= .ref a∧ρ.l[i]?=some a
 | .gl v,u=>u=v
noncomputable def RVs (h:Heap) (ρ:Rho):List V→List Value→Prop
 | [],us=>us=[]
 | v::vs,us=>∃u us',us=u::us'∧RV h ρ v u∧RVs h ρ vs us'
end
section
variable {h h':Heap} {ρ ρ':Rho} {v:V} {u:Value} {vs ws:List V} {us xs:List Value}
theorem RVs.nil:RVs h ρ [] []:=rfl
theorem RVs.cons (a:RV h ρ v u) (b:RVs h ρ vs us):RVs h ρ (v::vs) (u::us):=⟨u,us,rfl,a,b⟩
theorem RVs.nilI (x:RVs h ρ [] us):us=[]:=x
theorem RVs.consI (x:RVs h ρ (v::vs) us):∃u us',us=u::us'∧RV h ρ v u∧RVs h ρ vs us':=x
theorem RVs.rec' {P:List V→List Value→Prop} (nil:P [] []) (cons:∀{v u vs us},RV h ρ v u→RVs h ρ vs us→P vs us→P (v::vs) (u::us)):∀{vs us},RVs h ρ vs us→P vs us:=by
 intro vs
 induction vs with
 | nil=>exact fun {us} x=>Eq.rec (motive:=fun us zz=>P [] us) nil (Eq.symm (RVs.nilI x))
 | cons v vs ih=>exact fun {us} x=>x.consI.elim fun zz w=>w.elim fun zz w=>w.1.symm▸cons w.2.1 w.2.2 (ih w.2.2)
theorem RVs.len:RVs h ρ vs us→vs.length=us.length:=RVs.rec' (P:=fun vs us=>vs.length=us.length) rfl fun zz zz e=>congrArg (·+1) e
theorem RVs.get (x:RVs h ρ vs us):∀{i:Nat} {v:V},vs[i]?=some v→∃u,us[i]?=some u∧RV h ρ v u:=
 RVs.rec' (P:=fun vs us=>∀{i:Nat} {v:V},vs[i]?=some v→∃u,us[i]?=some u∧RV h ρ v u) (fun e=>nomatch e) (fun {_ u _ _} a _ ih {i w} e=>match i,e with
  | 0,e=>⟨u,rfl,G9 e▸a⟩
  | i+1,e=>ih (i:=i) e) x
theorem RVs.app (x:RVs h ρ vs us) (y:RVs h ρ ws xs):RVs h ρ (vs++ws) (us++xs):=RVs.rec' (P:=fun vs us=>RVs h ρ (vs++ws) (us++xs)) y (fun a zz ih=>.cons a ih) x
theorem RVs.drop (x:RVs h ρ vs us):∀n,RVs h ρ (vs.drop n) (us.drop n):=
 RVs.rec' (P:=fun vs us=>∀n,RVs h ρ (vs.drop n) (us.drop n)) (fun n=>by cases n <;> exact .nil) (fun a b ih n=>match n with
  | 0=>.cons a b
  | n+1=>ih n) x
theorem RVs.take (x:RVs h ρ vs us):∀n,RVs h ρ (vs.take n) (us.take n):=
 RVs.rec' (P:=fun vs us=>∀n,RVs h ρ (vs.take n) (us.take n)) (fun n=>by cases n <;> exact .nil) (fun a b ih n=>match n with
  | 0=>.nil
  | n+1=>.cons a (ih n)) x
theorem RVs.set (y:RV h ρ v u) (x:RVs h ρ vs us):∀i,RVs h ρ (vs.set i v) (us.set i u):=
 RVs.rec' (P:=fun vs us=>∀i,RVs h ρ (vs.set i v) (us.set i u)) (fun n=>.nil) (fun a b ih n=>match n with
  | 0=>.cons y b
  | n+1=>.cons a (ih n)) x
theorem RVs.each (x:RVs h ρ vs us) {P:Value→Prop} (hp:∀v∈vs,∀u,RV h ρ v u→P u):∀u∈us,P u:=
 RVs.rec' (P:=fun vs us=>(∀v∈vs,∀u,RV h ρ v u→P u)→∀u∈us,P u) (fun zz zz m=>nomatch m) (fun a b ih hp u m=>(C4.mp m).elim (fun q=>q▸hp _ (.head _) _ a) fun m=>ih (fun v hv=>hp v (.tail _ hv)) _ m) x hp
structure Bu (h:Heap) (ρ:Rho) (h':Heap) (ρ':Rho):Prop where
 k:∀{a o},ρ.ni a→h.get? a=some o→ρ'.ni a∧h'.get? a=some o
 p:∀{i:Nat} {a},ρ.l[i]?=some a→ρ'.l[i]?=some a
mutual
theorem RV.keep (K:Bu h ρ h' ρ'):∀{v:V} {u:Value},RV h ρ v u→RV h' ρ' v u
 | .none,_,x=>x
 | .bool _,_,x=>x
 | .int _,_,x=>x
 | .str _,_,x=>x
 | .loc _,_,x=>E9 (fun zz x=>⟨x.1,K.p x.2⟩) x
 | .gl _,_,x=>x
 | .tup _,_,x=>E9 (fun zz=>E9 fun zz x=>have q:=K.k x.2.1.2 x.2.1.1;⟨x.1,⟨q.2,q.1⟩,RVs.keep K x.2.2⟩) x
 | .lst _,_,x=>E9 (fun zz=>E9 fun zz=>E9 fun zz x=>have q:=K.k x.2.1.2 x.2.1.1;⟨x.1,⟨q.2,q.1⟩,RVs.keep K x.2.2⟩) x
theorem RVs.keep (K:Bu h ρ h' ρ'):∀{vs:List V} {us:List Value},RVs h ρ vs us→RVs h' ρ' vs us
 | [],_,x=>x
 | _::_,_,x=>E9 (fun zz=>E9 fun zz x=>⟨x.1,RV.keep K x.2.1,RVs.keep K x.2.2⟩) x
end
theorem V.reads {b:Bool}:∀n v,V.ok b n v=true→∀{u},RV h ρ v u→∃as,Reads h u v.pd as:=by
 have all:∀{n:Nat} (l:List V),(∀v∈l,∀{u},RV h ρ v u→∃as,Reads h u v.pd as)→∀{us},RVs h ρ l us→∃as,ReadsAll h us (V.pds l) as:=fun l H us x=>
  RVs.rec' (P:=fun l us=>(∀v∈l,∀{u},RV h ρ v u→∃as,Reads h u v.pd as)→∃as,ReadsAll h us (V.pds l) as) (fun zz=>⟨_,.nil⟩) (fun a zz ih H=>by
   refine ex1 (H _ (.head _) a) fun zz h1=>?_
   refine ex1 (ih fun v hv=>H v (.tail _ hv)) fun zz h2=>?_
   exact ⟨_,.cons h1 h2⟩) x H
 refine V.okI ?_ ?_ ?_ ?_
 ·rintro n i _ ⟨t,rfl⟩;exact ⟨_,.int i t⟩
 ·rintro n s _ _ ⟨t,rfl⟩;exact ⟨_,.str s t⟩
 ·rintro n l _ ih _ ⟨a,us,rfl,o,r⟩
  refine ex1 (all (n:=n) l ih r) fun zz q=>?_
  exact ⟨_,.tuple o.1 rfl rfl q⟩
 ·rintro n l _ _ ih _ ⟨a,us,m,rfl,o,r⟩
  refine ex1 (all (n:=n) l ih r) fun zz q=>?_
  exact ⟨_,.list o.1 rfl rfl q⟩
theorem V.lay {b:Bool}:∀n v,V.ok b n v=true→v.pd.canLay0=true∧v.pd.depth≤n:=by
 have all:∀{n:Nat} (l:List V),(∀v∈l,v.pd.canLay0=true∧v.pd.depth≤n)→PyData.canLayAll0 (V.pds l)=true∧PyData.depthAll (V.pds l)≤n:=by
  intro n l
  induction l with
  | nil=>exact fun zz=>⟨rfl,E2 _⟩
  | cons v r ih=>exact fun H=>
   have p:=H v (.head _)
   have q:=ih fun v hv=>H v (.tail _ hv)
   ⟨E3.mpr ⟨p.1,q.1⟩,Nat.max_le.mpr ⟨p.2,q.2⟩⟩
 exact V.okI (fun n i=>⟨rfl,E2 _⟩) (fun n s h=>⟨h,E2 _⟩) (fun n l zz ih=>have q:=all l ih;⟨q.1,by show (PyData.tuple (V.pds l)).depth≤n+1;rw[PyData.depth];exact G3 q.2 1⟩)
  fun n l zz zz ih=>have q:=all l ih;⟨q.1,by show (PyData.list (V.pds l)).depth≤n+1;rw[PyData.depth];exact G3 q.2 1⟩
theorem V.shaped {b:Bool} {n:Nat} (k:V.ok b n v=true) (hn:n≤64):SeqAt.shaped v.pd=true:=
 have q:=V.lay n v k
 E3.mpr ⟨q.1,decide_eq_true (A3 q.2 hn)⟩
theorem V.eqv {b c:Bool}:∀n v,V.ok b n v=true→∀m w,V.ok c m w=true→AU v.pd w.pd=decide (v=w):=by
 have all:∀{m:Nat} (l:List V),(∀v∈l,∀m w,V.ok c m w=true→AU v.pd w.pd=decide (v=w))→∀l':List V,l'.all (V.ok c m)=true→PyData.eqvAll (V.pds l) (V.pds l')=decide (l=l'):=by
  intro m l
  induction l with
  | nil=>exact fun zz l' zz=>match l' with
   | []=>(decide_eq_true rfl).symm
   | _::_=>(decide_eq_false fun e=>nomatch e).symm
  | cons v r ih=>
   intro H l' k
   cases l' with
   | nil=>exact (decide_eq_false fun e=>nomatch e).symm
   | cons v' r'=>
    have k:=E3.mp k
    show (AU v.pd v'.pd&&PyData.eqvAll (V.pds r) (V.pds r'))=_
    refine wg (H v (.head _) m v' k.1) (wg (ih (fun v hv=>H v (.tail _ hv)) r' k.2) (wh (Bool.decide_and ..) ?_))
    exact decide_eq_decide.mpr (List.cons.injEq ..▸f8)
 refine V.okI (fun zz i=>?_) (fun zz s zz=>?_) (fun n l zz ih=>?_) (fun n l zz zz ih=>?_) <;>
  refine V.okI (fun zz j=>?_) (fun zz t zz=>?_) (fun m l' k zz=>?_) (fun m l' zz k zz=>?_) <;> first | exact (decide_eq_false fun e=>nomatch e).symm | skip
 ·exact (f5 i j).trans (decide_eq_decide.mpr ⟨congrArg _,V.int.inj⟩)
 ·exact (f5 s t).trans (decide_eq_decide.mpr ⟨congrArg _,V.str.inj⟩)
 ·exact (all l ih l' k).trans (decide_eq_decide.mpr ⟨congrArg _,V.tup.inj⟩)
 ·exact (all l ih l' k).trans (decide_eq_decide.mpr ⟨congrArg _,V.lst.inj⟩)
end
section
variable {prog:Program} {w:World} {A:Around} {E:Value→Shared→Prop} {s:Shared} {ρ:Rho} {b c:Bool} {n m:Nat} {v v':V} {u u':Value} (k:V.ok b n v=true) (k':V.ok c m v'=true) (hn:n≤64) (hm:m≤64) (hu:A.units+64<cLine) (x:RV s.heap ρ v u) (x':RV s.heap ρ v' u')
set_option linter.unusedSectionVars false
include k k' hn hm hu x x'
theorem DK {Q:Bool→Shared→Prop} (h:Q (decide (v=v')) s):wpAny (model prog w) A (eqBool u u') Q E s:=by
 refine ex1 (V.reads n v k x) fun as r=>?_
 refine ex1 (V.reads m v' k' x') fun bs r'=>?_
 exact SeqAt.eqAt_reads _ _ A s _ _ _ _ r r' (V.lay n v k).1 (V.lay m v' k').1 (C2 (B7 (A3 (R9 _ _) (A3 (V.lay n v k).2 hn)) _) hu) prog w E Q (by refine wg (V.eqv n v k m v' k') ?_;exact h)
end
set_option genSizeOf true
mutual
noncomputable def BP (w:World):V→Int
 | .int i=>hashInt i
 | .str s=>hashStr w s
 | .tup l=>reduceHash (Ah (GO w l))
 | _=>0
noncomputable def GO (w:World):List V→List Int
 | []=>[]
 | v::r=>BP w v::GO w r
end
mutual
noncomputable def Cl:V→Nat
 | .tup l=>FQ l+1
 | _=>1
noncomputable def FQ:List V→Nat
 | []=>0
 | v::r=>Cl v+FQ r
end
@[reducible] noncomputable def V.key:=V.ok false
section
variable {prog:Program} {w:World} {ρ:Rho}
theorem hash_loop {A:Around} {s:Shared} {E:Value→Shared→Prop} {l:List V} {us:List Value} (r:RVs s.heap ρ l us) {f:Value→Array Int→Sem (ForInStep (Array Int))}
  (hf:∀{u b s' Q},wpAny (model prog w) A (pyHash u) (fun h s''=>Q (.yield (b.push h)) s'') E s'→wpAny (model prog w) A (f u b) Q E s')
  (ih:∀v∈l,∀{u} t {Q:Int→Shared→Prop},RV s.heap ρ v u→Q (BP w v) {s with toks:=t+Cl v}→wpAny (model prog w) A (pyHash u) Q E {s with toks:=t}):
  ∀{b:Array Int} {t:Nat} {Q:Array Int→Shared→Prop},(∀b':Array Int,b'.toList=b.toList++GO w l→Q b' {s with toks:=t+FQ l})→wpAny (model prog w) A (forIn us b f) Q E {s with toks:=t}:=
 RVs.rec' (P:=fun l us=>(∀v∈l,∀{u} t {Q:Int→Shared→Prop},RV s.heap ρ v u→Q (BP w v) {s with toks:=t+Cl v}→wpAny (model prog w) A (pyHash u) Q E {s with toks:=t})→
   ∀{b:Array Int} {t:Nat} {Q:Array Int→Shared→Prop},(∀b':Array Int,b'.toList=b.toList++GO w l→Q b' {s with toks:=t+FQ l})→wpAny (model prog w) A (forIn us b f) Q E {s with toks:=t})
  (fun zz zz t Q k=>A5 (k _ (D8 _).symm))
  (fun {v u vs us} a _ ih H b t Q k=>by
   refine wg (Y4 ..) ?_
   exact A1 (hf (H v (.head _) t a (ih (fun v hv=>H v (.tail _ hv)) fun b' e=>by
    have:=k b' (by refine wg e ?_;simp[GO])
    rwa [show FQ (v::vs)=Cl v+FQ vs from rfl,←M2] at this)))) r ih
theorem Dc:∀n v,V.key n v=true→∀{u} {A:Around} {s:Shared} {E:Value→Shared→Prop} {Q:Int→Shared→Prop},A.units+n<cLine→RV s.heap ρ v u→
  Q (BP w v) {s with toks:=s.toks+Cl v}→wpAny (model prog w) A (pyHash u) Q E s:=by
 refine V.okI ?_ ?_ ?_ ?_
 ·rintro n i _ A s E Q _ ⟨t,rfl⟩ h;exact wpAny_pyHash_int h
 ·rintro n i _ _ A s E Q _ ⟨t,rfl⟩ h;exact wpAny_pyHash_str h
 ·rintro n l kl ih _ A s E Q hu ⟨a,us,rfl,o,r⟩ h
  refine pyHash_slot (T:="tuple") ⟨_,o.1,rfl⟩ F.slot_tuple_hash F.entry_tuple_hash (F.args_tuple_hash_1 _) (beq_builtin_none _) (.inr (C2 (C0 _ _) hu)) ?_
  show wpAny _ _ (AV (.ref a) >>=_) _ _ s
  refine A1 (wpAny_tupleItemsOf o.1 rfl (A1 ?_))
  refine wh b6 ?_
  refine hash_loop (s:=s) (t:=s.toks) r (fun h=>A1 (J8 h (fun zz zz h=>A5 h) fun zz zz e=>e)) (fun v hv u t Q x h=>ih v hv (s:={s with toks:=t}) (C2 (B3 (G6 A.units n)) hu) x h) fun b' e=>?_
  show wpAny _ _ (retInt (Ah b'.toList)) _ _ _
  refine wg e ?_
  exact A1 (wpAny_mkInt (A5 ⟨_,_,rfl,h⟩))
 ·rintro n l e;cases e
theorem He:∀n v,V.key n v=true→∀{d u} {A:Around} {s:Shared} {E:Value→Shared→Prop} {Q:Bool→Shared→Prop},n≤d→RV s.heap ρ v u→Q true s→wpAny (model prog w) A (eqIsQuiet d u) Q E s:=by
 refine V.okI ?_ ?_ ?_ ?_
 ·rintro n i d _ A s E Q _ ⟨t,rfl⟩ h;refine wg (eqIsQuiet_byValue d (by rfl)) ?_;exact A5 h
 ·rintro n i _ d _ A s E Q _ ⟨t,rfl⟩ h;refine wg (eqIsQuiet_byValue d (by rfl)) ?_;exact A5 h
 ·rintro n l kl ih d _ A s E Q hn ⟨a,us,rfl,o,r⟩ h
  obtain ⟨d,rfl⟩:∃d',d=d'+1:=⟨d - 1,(Q5 (A3 (D5 1 n) hn)).symm⟩
  have hT:s.TypeIs (.ref a) "tuple":=⟨_,o.1,rfl⟩
  unfold eqIsQuiet
  refine A1 (V2 hT F.slot_tuple_eq.lookup ?_)
  refine A1 (W3 hT isSubtype_tuple_tuple (A1 (Q8 o.1 rfl (A1 ?_))))
  show wpAny _ _ (forIn us _ _) _ _ s
  refine wh b6 ?_
  have all:∀u∈us.toList,∀{Q:Bool→Shared→Prop},Q true s→wpAny (model prog w) A (eqIsQuiet d u) Q E s:=r.each fun v hv u x Q h=>ih v hv (D6 hn) x h
  refine t6 _ (fun rest r s'=>r.1=none∧s'=s∧∀u∈rest,u∈us.toList) _ ?_ ?_ _ _ ⟨rfl,rfl,fun zz h=>h⟩
  ·rintro v rest r s' ⟨hr,rfl,H⟩
   exact A1 (all v (H v (.head _)) (A5 ⟨rfl,rfl,fun u hu=>H u (.tail _ hu)⟩))
  ·rintro ⟨_,r2⟩ s' ⟨rfl,rfl,_⟩
   exact A5 h
 ·rintro n l e;cases e
theorem RV.inj {h:Heap} {n m:Nat} {v v':V} {u:Value} (k:V.key n v=true) (k':V.key m v'=true) (x:RV h ρ v u) (x':RV h ρ v' u):v=v':=by
 refine ex1 (V.reads n v k x) fun as r=>?_
 refine ex1 (V.reads m v' k' x') fun bs r'=>?_
 have e:=V.eqv n v k m v' k'
 rw[←SeqAt.Reads.unique _ _ _ _ _ (V.lay n v k).1 r r',SeqAt.eqv_refl _ (V.lay n v k).1] at e
 exact of_decide_eq_true e.symm
noncomputable def tupK (prog:Program) (w:World) (ρ:Rho):HeapKind prog w V where
 is h v a:=V.key 8 v=true∧RV h ρ v (.ref a)
 hash:=BP w
 draws:=Cl
 room A:=A.units+64<cLine
 inj x y:=RV.inj x.1 y.1 x.2 y.2
 keeps {h h' k a d o es ep} x ho hd hs:=⟨x.1,by
  have all:∀n v,V.key n v=true→∀u,RV h ρ v u→RV h' ρ v u:=by
   refine V.okI (fun zz zz zz x=>x) (fun zz zz zz zz x=>x) ?_ fun zz zz e=>nomatch e
   rintro n l _ ih _ ⟨a,us,rfl,o',r⟩
   exact ⟨a,us,rfl,⟨(hs.2 a fun q=>by rw[q,ho] at o';cases o'.1;cases hd).trans o'.1,o'.2⟩,RVs.rec' (P:=fun l us=>(∀v∈l,∀u,RV h ρ v u→RV h' ρ v u)→RVs h' ρ l us) (fun zz=>.nil) (fun a zz ih H=>.cons (H _ (.head _) _ a) (ih fun v hv=>H v (.tail _ hv))) r ih⟩
  exact all 8 k x.1 _ x.2⟩
 pyHash hu x h:=Dc 8 _ x.1 (un hu rfl) x.2 h
 eqBool hu x y h:=DK x.1 y.1 (by decide) (by decide) hu x.2 y.2 h
 quiet x h:=He 8 _ x.1 (B2 _) x.2 h
noncomputable def BQ (w:World) (h:Heap) (ρ:Rho):List (V×V)→List DictEntry→Prop
 | [],es=>es=[]
 | p::r,es=>∃e es',es=e::es'∧(e.hash=BP w p.1∧RV h ρ p.1 e.key∧RV h ρ p.2 e.val)∧BQ w h ρ r es'
variable {h h':Heap} {ρ':Rho} {l r:List (V×V)} {es xs:List DictEntry}
theorem BQ.nil:BQ w h ρ [] []:=rfl
theorem BQ.cons {p:V×V} {e:DictEntry} (a:e.hash=BP w p.1∧RV h ρ p.1 e.key∧RV h ρ p.2 e.val) (b:BQ w h ρ r es):BQ w h ρ (p::r) (e::es):=⟨e,es,rfl,a,b⟩
theorem BQ.rec' {P:List (V×V)→List DictEntry→Prop} (nil:P [] []) (cons:∀{p e r es},(e.hash=BP w p.1∧RV h ρ p.1 e.key∧RV h ρ p.2 e.val)→BQ w h ρ r es→P r es→P (p::r) (e::es)):∀{l es},BQ w h ρ l es→P l es:=by
 intro l
 induction l with
 | nil=>exact fun {us} x=>Eq.rec (motive:=fun us zz=>P [] us) nil (Eq.symm x)
 | cons v vs ih=>exact fun {us} x=>U1 x fun zz w=>w.elim fun zz w=>w.1.symm▸cons w.2.1 w.2.2 (ih w.2.2)
theorem BQ.len:BQ w h ρ l es→l.length=es.length:=BQ.rec' (P:=fun l es=>l.length=es.length) rfl fun zz zz e=>congrArg (·+1) e
theorem BQ.get (x:BQ w h ρ l es):∀{j:Nat} {p:V×V},l[j]?=some p→∃e,es[j]?=some e∧e.hash=BP w p.1∧RV h ρ p.1 e.key∧RV h ρ p.2 e.val:=
 BQ.rec' (P:=fun l es=>∀{j:Nat} {p:V×V},l[j]?=some p→∃e,es[j]?=some e∧e.hash=BP w p.1∧RV h ρ p.1 e.key∧RV h ρ p.2 e.val) (fun e=>nomatch e) (fun {_ u _ _} a _ ih {i w} e=>match i,e with
  | 0,e=>⟨u,rfl,G9 e▸a⟩
  | i+1,e=>ih (j:=i) e) x
theorem BQ.keep (K:Bu h ρ h' ρ'):BQ w h ρ l es→BQ w h' ρ' l es:=BQ.rec' (P:=fun l es=>BQ w h' ρ' l es) .nil fun a zz b=>.cons ⟨a.1,a.2.1.keep K,a.2.2.keep K⟩ b
theorem BQ.app (x:BQ w h ρ l es) (y:BQ w h ρ r xs):BQ w h ρ (l++r) (es++xs):=BQ.rec' (P:=fun l es=>BQ w h ρ (l++r) (es++xs)) y (fun a zz b=>.cons a b) x
theorem BQ.set {v:V} {u:Value} (hv:RV h ρ v u) (x:BQ w h ρ l es):∀j,BQ w h ρ (l.modify j fun p=>(p.1,v)) (es.modify j fun e=>{e with val:=u}):=
 BQ.rec' (P:=fun l es=>∀j,BQ w h ρ (l.modify j fun p=>(p.1,v)) (es.modify j fun e=>{e with val:=u})) (fun j=>by cases j <;> exact .nil) (fun a b ih j=>match j with
  | 0=>.cons ⟨a.1,a.2.1,hv⟩ b
  | j+1=>.cons a (ih j)) x
theorem BQ.erase (x:BQ w h ρ l es):∀j,BQ w h ρ (l.eraseIdx j) (es.eraseIdx j):=
 BQ.rec' (P:=fun l es=>∀j,BQ w h ρ (l.eraseIdx j) (es.eraseIdx j)) (fun j=>.nil) (fun a b ih j=>match j with
  | 0=>b
  | j+1=>.cons a (ih j)) x
noncomputable def V.kind:V→Nat
 | .int _=>0
 | .str _=>1
 | .tup _=>2
 | _=>3
noncomputable def at' (l:List (V×V)) (v:V):Option Nat:=l.findIdx? fun p=>decide (p.1=v)
theorem at_none {v:V} (h:∀(j:Nat) (p:V),l[j]?≠some (v,p)):at' l v=none:=Y3.mpr fun x hx=>decide_eq_false fun e=>by
 refine ex1 (Y5 hx) fun j hj=>?_
 exact h j x.2 (by exact wg hj (wh e rfl))
theorem GD {v p:V} {j:Nat} (nd:(l.map (·.1)).Nodup) (h:l[j]?=some (v,p)):at' l v=some j:=by
 refine ex1 (B6.mp h) fun hj e=>?_
 refine J4.mpr ⟨hj,decide_eq_true (by exact wg e rfl),fun i hi=>?_⟩
 refine wg (t7 ..) ?_;rewrite[decide_eq_false_iff_not]
 intro q
 have:i=j:=(List.getElem_inj (xs:=l.map (·.1)) (h₀:=by refine wg (A4 ..) ?_;exact U0 hi hj) (h₁:=by refine wg (A4 ..) ?_;exact hj) nd).mp (by exact wg (M4 ..) (wg (M4 ..) (wg q (wg e rfl))))
 exact absurd this (E4 hi)
theorem HB {f:DictEntry→Bool} {v:V} (x:BQ w h ρ l es) (H:∀p∈l,∀e:DictEntry,RV h ρ p.1 e.key→f e=decide (p.1=v)):es.findIdx? f=at' l v:=
 BQ.rec' (P:=fun l es=>(∀p∈l,∀e:DictEntry,RV h ρ p.1 e.key→f e=decide (p.1=v))→es.findIdx? f=at' l v) (fun zz=>rfl) (fun {p e r es} a _ ih H=>by
  unfold at'
  refine wg W6 (wg W6 (wg (H p (.head _) e a.2.1) (wg (ih fun p hp=>H p (.tail _ hp)) ?_)));rfl) x H
theorem key3:∀n v,V.key n v=true→(∃i,v= .int i)∨(∃x,v= .str x)∨∃l,v= .tup l:=
 V.okI (fun zz i=>.inl ⟨i,rfl⟩) (fun zz x zz=>.inr (.inl ⟨x,rfl⟩)) (fun zz l zz zz=>.inr (.inr ⟨l,rfl⟩)) fun zz zz e=>nomatch e
variable {A:Around} {E:Value→Shared→Prop} {s:Shared}
theorem Dh {d:Addr} {o:Obj} {es:Array DictEntry} {ep:Nat} {l:List (V×V)} {v:V} {u:Value} {Q:Option Nat→Shared→Prop}
  (hu:A.units+64<cLine) (k:V.key 8 v=true) (x:RV s.heap ρ v u)
  (ho:s.heap.get? d=some o) (hd:o.data= .dict es ep) (he:BQ w s.heap ρ l es.toList) (hks:∀p∈l,V.key 8 p.1=true∧p.1.kind=v.kind) (hn:(l.map (·.1)).Nodup) (h:Q (at' l v) s):
  wpAny (model prog w) A (dictFind d u (BP w v)) Q E s:=by
 have hI:∀p:V,p.kind=0→∃i,p= .int i:=fun p e=>by cases p <;> first | exact ⟨_,rfl⟩ | cases e
 have hS:∀p:V,p.kind=1→∃i,p= .str i:=fun p e=>by cases p <;> first | exact ⟨_,rfl⟩ | cases e
 have mem:∀e∈es,∃p∈l,e.hash=BP w p.1∧RV s.heap ρ p.1 e.key:=fun e m=>
  BQ.rec' (P:=fun l es=>∀e∈es,∃p∈l,e.hash=BP w p.1∧RV s.heap ρ p.1 e.key) (fun zz m=>nomatch m) (fun {p e r es} a _ ih e' m=>(C4.mp m).elim (fun q=>by subst q;exact ⟨p,.head _,a.1,a.2.1⟩) fun m=>(ih _ m).imp fun zz w=>⟨.tail _ w.1,w.2⟩) he e (U2.mpr m)
 have tl:∀f,es.findIdx? f=es.toList.findIdx? f:=fun f=>by cases es;simp
 rcases key3 8 v k with ⟨i,rfl⟩ | ⟨i,rfl⟩ | ⟨i,rfl⟩
 ·refine ex1 x fun t hh1=>?_;clear x;obtain rfl:=hh1
  refine wpAny_dictFind_of (knd:=intKind prog w) (k:=i) (by simp[intKind,Value.isInt]) ho hd (fun e m=>?_) ?_
  ·refine Bo (mem e m) fun p hp e1 e2=>?_
   refine ex1 (hI _ (hks p hp).2) fun j ej=>?_
   rw[ej] at e1 e2
   obtain ⟨t',e2⟩:=e2
   exact ⟨j,by refine wg e2 ?_;simp[intKind,Value.isInt],e1⟩
  ·refine wg (tl ..) ?_;rewrite[HB he fun p hp e r=>?_]
   ·exact h
   ·refine ex1 (hI _ (hks p hp).2) fun j ej=>?_
    rw[ej] at r ⊢
    refine ex1 r fun t' e2=>?_;clear r
    refine wg e2 ?_;simp[intKind,Value.isInt,f5]
 ·refine ex1 x fun t hh1=>?_;clear x;obtain rfl:=hh1
  refine wpAny_dictFind_of (knd:=PySem.strKind prog w) (k:=i) (by simp[PySem.strKind,Value.isStrOf]) ho hd (fun e m=>?_) ?_
  ·refine Bo (mem e m) fun p hp e1 e2=>?_
   refine ex1 (hS _ (hks p hp).2) fun j ej=>?_
   rw[ej] at e1 e2
   obtain ⟨t',e2⟩:=e2
   exact ⟨j,by refine wg e2 ?_;simp[PySem.strKind,Value.isStrOf],e1⟩
  ·refine wg (tl ..) ?_;rewrite[HB he fun p hp e r=>?_]
   ·exact h
   ·refine ex1 (hS _ (hks p hp).2) fun j ej=>?_
    rw[ej] at r ⊢
    refine ex1 r fun t' e2=>?_;clear r
    refine wg e2 ?_;simp[PySem.strKind,Value.isStrOf,f5]
 ·refine CU x fun a us hh2 y=>?_;clear x;obtain rfl:=hh2
  have x:RV s.heap ρ (.tup i) (.ref a):=⟨a,us,rfl,y⟩
  obtain ⟨xs,e1,e2,e3⟩:∃xs:List (V×Addr×Value),xs.map (entryOfKey (tupK prog w ρ))=es.toList∧(xs.map fun q=>q.1)=l.map (·.1)∧∀q∈xs,RV s.heap ρ q.1 (.ref q.2.1):=
   BQ.rec' (P:=fun l es=>(∀p∈l,p.1.kind=2)→∃xs:List (V×Addr×Value),xs.map (entryOfKey (tupK prog w ρ))=es∧(xs.map fun q=>q.1)=l.map (·.1)∧∀q∈xs,RV s.heap ρ q.1 (.ref q.2.1)) (fun zz=>⟨[],rfl,rfl,fun zz m=>nomatch m⟩)
    (fun {p e r es} a _ ih H=>by
     refine Bo (ih fun p hp=>H p (.tail _ hp)) fun xs e1 e2 e3=>?_
     obtain ⟨hh,kk,vv⟩:=e
     obtain ⟨b,rfl⟩:∃b,kk= .ref b:=by
      have h2:=H p (.head _)
      obtain ⟨q1,q2⟩:=p
      cases q1 with
      | tup _=>refine CU a.2.1 fun b zz q zz=>?_;exact ⟨b,q⟩
      | _=>cases h2
     refine ⟨(p.1,b,vv)::xs,?_,by exact wg Q2 (wg Q2 (wg e2 rfl)),fun q m=>?_⟩
     ·refine wg Q2 (wg e1 ?_);exact congrArg (fun h=>DictEntry.mk h _ _::_) a.1.symm
     ·cases m with
      | head=>exact a.2.1
      | tail _ m=>exact e3 q m) he fun p hp=>(hks p hp).2
  have back:∀(j:Nat) (q:V×Addr×Value),xs[j]?=some q→∃p,l[j]?=some (q.1,p):=fun j q hq=>by
   have:=congrArg (fun z=>z[j]?) e2
   simp only[G0,hq,Option.map_some] at this
   refine BD (I9.mp this.symm) fun p hp hpe=>?_
   exact ⟨p.2,by exact wg hp (wh hpe rfl)⟩
  have forth:∀(j:Nat) (p:V×V),l[j]?=some p→∃q,xs[j]?=some (p.1,q):=fun j p hp=>by
   have:=congrArg (fun z=>z[j]?) e2
   simp only[G0,hp,Option.map_some] at this
   refine BD (I9.mp this) fun q hq hqe=>?_
   exact ⟨q.2,by exact wg hq (wh hqe rfl)⟩
  have kx:(tupK prog w ρ).is s.heap (.tup i) a:=⟨k,x⟩
  have hr:(tupK prog w ρ).room A:=hu
  refine wpAny_dictFind_heap (knd:=tupK prog w ρ) (k:= .tup i) (a:=a) (xs:=xs) hr kx ho hd e1.symm (fun q m=>?_) (by refine wg e2 ?_;exact hn) (fun no=>?_) fun j p hj=>?_
  ·refine ex1 (Y5 m) fun j hj=>?_
   refine ex1 (back j q hj) fun p hp=>?_
   exact ⟨(hks _ (B9 hp)).1,e3 q m⟩
  ·rw[at_none fun j p hj=>?_] at h
   ·exact h
   ·refine ex1 (forth j _ hj) fun q hq=>?_;exact no j q hq
  ·refine ex1 (back j _ hj) fun p' hp=>?_
   rw[GD hn hp] at h;exact h
end
set_option genSizeOf false
inductive PO where
 | list (l:List V)
  | dict (b:Bool) (l:List (V×V))
 | inst (c:Addr) (d:Nat)
 | ns (c:Addr) (l:List V)
@[reducible] noncomputable def Hp:=List PO
noncomputable def Hp.f:Hp→Nat→Option PO
 | [],_=>none
 | o::r,i=>match i with
  | 0=>some o
  | i+1=>Hp.f r i
@[reducible] noncomputable def Hp.n (hp:Hp):Nat:=hp.length
@[reducible] noncomputable def Hp.alloc (hp:Hp) (o:PO):Hp:=hp++[o]
noncomputable def Hp.put:Hp→Nat→PO→Hp
 | [],_,_=>[]
 | o::r,i,o'=>match i with
  | 0=>o'::r
  | i+1=>o::Hp.put r i o'
theorem CM (hp:Hp):∀i,hp.f i=hp[i]?:=by
 induction hp with
 | nil=>exact fun zz=>rfl
 | cons o r ih=>exact fun i=>match i with
  | 0=>rfl
  | i+1=>ih i
theorem Bz (hp:Hp):∀i o,hp.put i o=hp.set i o:=by
 induction hp with
 | nil=>exact fun zz zz=>rfl
 | cons o r ih=>exact fun i o'=>match i with
  | 0=>rfl
  | i+1=>congrArg (o::·) (ih i o')
theorem DT {hp:Hp} {i:Nat} {o:PO}:(hp.put i o).length=hp.length:=by refine wg (Bz ..) ?_;exact O4
theorem CG {hp:Hp} {i:Nat} {o:PO} (h:i<hp.length):(hp.put i o).f i=some o:=by refine wg (Bz ..) (wg (CM ..) ?_);exact n5 h
theorem Bb {hp:Hp} {i j:Nat} {o:PO} (h:i≠j):(hp.put i o).f j=hp.f j:=by refine wg (Bz ..) (wg (CM ..) (wg (CM ..) ?_));exact List.getElem?_set_ne h
theorem DF {hp:Hp} {i:Nat} {o:PO} (h:hp.f i=some o):i<hp.length:=by rw[CM] at h;exact (B6.mp h).1
theorem BT {hp t:Hp} {i:Nat} {o:PO} (h:hp.f i=some o):Hp.f (hp++t) i=some o:=by
 rw[CM] at h ⊢;exact (J7 (B6.mp h).1).trans h
theorem alloc_at {hp:Hp} {o:PO}:(hp.alloc o).f hp.length=some o:=by refine wg (CM ..) ?_;exact V8
theorem GE {hp t:Hp} {i:Nat} {o:PO} (h:i<hp.length):Hp.put (hp++t) i o=hp.put i o++t:=by refine wg (Bz ..) (wg (Bz ..) ?_);exact List.set_append_left _ _ h
@[reducible] noncomputable def Lc:=List (Option V)
@[reducible] noncomputable def KV:=V→Hp→Prop
@[reducible] noncomputable def XE (β:Type):=Lc→Hp→(β→Hp→Prop)→Prop
@[reducible] noncomputable def XS:=Lc→Hp→(Lc→Hp→Prop)→KV→Prop
@[reducible] noncomputable def XT:=V→Lc→Hp→(Lc→Hp→Prop)→Prop
@[reducible] noncomputable def Fn:=List V→Hp→KV→Prop
@[reducible] noncomputable def P1:=V→Hp→KV→Prop
@[reducible] noncomputable def P2:=V→V→Hp→KV→Prop
noncomputable section
section
variable (v:V)
noncomputable def vI (k:Int→Prop):Prop:=match v with | .int i=>k i | _=>False
noncomputable def vS (k:Str→Prop):Prop:=match v with | .str x=>k x | _=>False
noncomputable def vT (k:List V→Prop):Prop:=match v with | .tup l=>k l | _=>False
noncomputable def vN (k:Nat→Prop):Prop:=match v with | .loc a=>k a | _=>False
noncomputable def vB (k:Bool→Prop):Prop:=match v with | .bool b=>k b | _=>False
end
@[irreducible] noncomputable def pL (o:Option PO) (k:List V→Prop):Prop:=match o with | some (.list l)=>k l | _=>False
@[irreducible] noncomputable def pD (o:Option PO) (k:Bool→List (V×V)→Prop):Prop:=match o with | some (.dict b l)=>k b l | _=>False
@[irreducible] noncomputable def pI (o:Option PO) (k:Addr→Nat→Prop):Prop:=match o with | some (.inst c d)=>k c d | _=>False
@[irreducible] noncomputable def pN (o:Option PO) (k:Addr→List V→Prop):Prop:=match o with | some (.ns c l)=>k c l | _=>False
@[irreducible] noncomputable def pZ (o:Option PO) (k:Nat→Prop):Prop:=match o with | some (.dict _ d)=>k d.length | some (.list l)=>k l.length | _=>False
@[irreducible] noncomputable def pS (o:Option PO) (kl:List V→Prop) (kd:List (V×V)→Prop):Prop:=match o with | some (.list l)=>kl l | some (.dict true d)=>kd d | _=>False
@[irreducible] noncomputable def oV (o:Option V) (ks:V→Prop) (kn:Prop):Prop:=match o with | some v=>ks v | none=>kn
noncomputable def so {α:Type} (o:Option α) (k:α→Prop):Prop:=match o with | some x=>k x | none=>False
noncomputable def a1 (vs:List V) (k:V→Prop):Prop:=match vs with | [x]=>k x | _=>False
noncomputable def a2 (vs:List V) (k:V→V→Prop):Prop:=match vs with | x::r=>a1 r (k x) | _=>False
noncomputable def a3 (vs:List V) (k:V→V→V→Prop):Prop:=match vs with | x::r=>a2 r (k x) | _=>False
@[reducible] noncomputable def hL (hp:Hp) (v:V) (k:Nat→List V→Prop):Prop:=vN v fun a=>pL (hp.f a) (k a)
@[reducible] noncomputable def hD (hp:Hp) (v:V) (k:Nat→Bool→List (V×V)→Prop):Prop:=vN v fun a=>pD (hp.f a) (k a)
@[reducible] noncomputable def hI (hp:Hp) (C:Addr) (v:V) (k:Nat→List V→Prop):Prop:=vN v fun a=>pI (hp.f a) fun c d=>c=C∧pN (hp.f d) fun c l=>c=C∧k d l
noncomputable def aL (hp:Hp) (v:V) (k:List V→Prop):Prop:=match v with | .lst l=>k l | .loc a=>pL (hp.f a) k | _=>False
noncomputable def vw (hp:Hp) (v:V) (k:V→Prop):Prop:=match v with | .loc a=>pL (hp.f a) fun l=>k (.lst l) | v=>k v
@[reducible] noncomputable def V.cmp:=V.ok true
noncomputable def Bc (l:List (V×V)) (k v:V):List (V×V):=match at' l k with
 | some j=>l.modify j fun p=>(p.1,v)
 | none=>l++[(k,v)]
noncomputable def El (l:List (V×V)) (k:V):List (V×V):=match at' l k with
 | some j=>l.eraseIdx j
 | none=>l
noncomputable def BR (l:List (V×V)) (k:V):Option V:=(at' l k).bind fun j=>l[j]?.map (·.2)
structure Br (l:List (V×V)) (k:V):Prop where
 y:V.key 8 k=true
 d:∀p∈l,p.1.kind=k.kind
 z:l.length≤4096
noncomputable def CB:P2:=fun a b hp K=>match a with
 | .int i=>vI b fun j=>K (.int (i+j)) hp
 | .str x=>vS b fun y=>x.length+y.length≤4096∧K (.str (x++y)) hp
 | .tup l=>vT b fun r=>l.length+r.length≤4096∧K (.tup (l++r)) hp
 | _=>False
noncomputable def Fy:P2:=fun a b hp K=>vI a fun i=>vI b fun j=>K (.int (i - j)) hp
noncomputable def mulA:P2:=fun a b hp K=>vI a fun i=>vI b fun j=>i.natAbs<1000000∧K (.int (i*j)) hp
noncomputable def fdivA:P2:=fun a b hp K=>vI a fun i=>vI b fun j=>(j≠0∧j.natAbs<1000000)∧K (.int (i.fdiv j)) hp
noncomputable def modA:P2:=fun a b hp K=>vI a fun i=>vI b fun j=>j≠0∧K (.int (i.fmod j)) hp
noncomputable def ltA:P2:=fun a b hp K=>vI a fun i=>vI b fun j=>K (.bool (decide (i<j))) hp
noncomputable def leA:P2:=fun a b hp K=>vI a fun i=>vI b fun j=>K (.bool (decide (i≤j))) hp
noncomputable def gtA:P2:=fun a b hp K=>vI a fun i=>vI b fun j=>K (.bool (decide (j<i))) hp
noncomputable def Bl (n:Bool):P2:=fun a b hp K=>vw hp a fun a=>vw hp b fun b=>(V.cmp 8 a=true∧V.cmp 8 b=true)∧K (.bool (decide (a=b)^^n)) hp
noncomputable def Hf (n:Bool):P1:=fun a hp K=>match a with
 | .none=>K (.bool !n) hp
 | .tup _=>K (.bool n) hp
 | .loc _=>K (.bool n) hp
 | _=>False
noncomputable def indA (n:Bool):P2:=fun x b hp K=>hD hp b fun zz zz d=>Br d x∧K (.bool ((at' d x).isSome^^n)) hp
noncomputable def inlA (n:Bool):P2:=fun x b hp K=>aL hp b fun l=>(V.cmp 8 (.lst l)=true∧V.cmp 8 x=true)∧K (.bool (decide (x∈l)^^n)) hp
noncomputable def insA:P2:=fun x b hp K=>vS x fun x=>vS b fun y=>K (.bool (!(m0 y x 0 y.length 1).isEmpty)) hp
noncomputable def BN:P2:=fun o i hp K=>vI i fun i=>match o with
 | .tup l=>(l.length≤4096∧0≤i)∧so l[i.toNat]? fun v=>K v hp
 | .str x=>(i=0∧0<x.length)∧K (.str (Txt.item x 0)) hp
 | o=>aL hp o fun l=>(l.length≤4096∧0≤i)∧so l[i.toNat]? fun v=>K v hp
noncomputable def CH:P2:=fun o i hp K=>hD hp o fun zz zz d=>Br d i∧so (BR d i) fun v=>K v hp
noncomputable def CF:P1:=fun a hp K=>vT a fun l=>match l with
 | []=>False
 | _::l=>l.length≤4095∧K (.tup l) hp
noncomputable def to1A:P1:=fun a hp K=>match a with
 | .str x=>x.length≤4096∧K (.str ⟨(x.cps.toList.take 1).toArray⟩) hp
 | .tup l=>match l with
  | []=>False
  | v::l=>l.length≤4095∧K (.tup [v]) hp
 | _=>False
noncomputable def rev2A:P1:=fun a hp K=>aL hp a fun l=>a2 l fun x y=>K (.lst [y,x]) hp
noncomputable def scrA (sc:Value) (ns:List Int):P1:=fun a hp K=>a= .gl sc∧K (.lst ((ns.take 20).map .int)) hp
noncomputable def V.plain:V→Bool
 | .loc _=>true
 | .int _=>true
 | _=>false
noncomputable def BM (C:Addr) (i:Nat):P1:=fun a hp K=>hI hp C a fun zz l=>so l[i]? fun v=>v.plain=true∧K v hp
@[reducible] noncomputable def St3:=V→V→V→Hp→(Hp→Prop)→Prop
noncomputable def setL:St3:=fun o i v hp N=>vI i fun i=>hL hp o fun a l=>(0≤i∧i.toNat<l.length∧l.length≤4096)∧N (hp.put a (.list (l.set i.toNat v)))
noncomputable def Em:St3:=fun o i v hp N=>hD hp o fun a b d=>Br d i∧N (hp.put a (.dict b (Bc d i v)))
noncomputable def putN (i:Nat) (v:V):List V→List V
 | []=>[v]
 | w::r=>match i with
  | 0=>v::r
  | i+1=>w::putN i v r
termination_by structural l=>l
noncomputable def setA (C:Addr) (i:Nat) (o v:V) (hp:Hp) (N:Hp→Prop):Prop:=hI hp C o fun d l=>(i≤l.length∧l.length≤800)∧N (hp.put d (.ns C (putN i v l)))
noncomputable def BZ:Fn:=fun vs hp K=>a2 vs fun o x=>hL hp o fun a l=>l.length≤4096∧K .none (hp.put a (.list (l++[x])))
noncomputable def CZ:Fn:=fun vs hp K=>a2 vs fun o b=>hL hp o fun a l=>aL hp b fun r=>l.length+r.length≤4096∧K .none (hp.put a (.list (l++r)))
noncomputable def opPop:Fn:=fun vs hp K=>a1 vs fun o=>hL hp o fun a l=>l.length≤4000∧so l.getLast? fun x=>K x (hp.put a (.list l.dropLast))
noncomputable def Hg:Fn:=fun vs hp K=>a2 vs fun o x=>aL hp o fun l=>((∀v∈l,V.key 8 v=true)∧V.key 8 x=true∧l.length≤4096)∧so (l.findIdx? fun y=>decide (y=x)) fun j=>K (.int j) hp
noncomputable def Bt:Fn:=fun vs hp K=>a3 vs fun o x y=>hD hp o fun a b d=>Br d x∧oV (BR d x) (fun v=>K v hp) (K y (hp.put a (.dict b (Bc d x y))))
noncomputable def opDPop:Fn:=fun vs hp K=>a2 vs fun o x=>hD hp o fun a b d=>Br d x∧vI x fun zz=>so (BR d x) fun v=>K v (hp.put a (.dict false (El d x)))
noncomputable def Hh:Fn:=fun vs hp K=>a1 vs fun x=>vS x fun x=>K (.bool (decide (x.length>0)&&x.cps.all AE)) hp
noncomputable def Bh:Fn:=fun vs hp K=>a1 vs fun o=>match o with
 | .tup l=>l.length≤4096∧K (.int l.length) hp
 | .loc a=>pZ (hp.f a) fun n=>n≤4096∧K (.int n) hp
 | .lst l=>l.length≤4096∧K (.int l.length) hp
 | _=>False
noncomputable def intL (l:List V) (k:List Int→Prop):Prop:=∃m:List Int,l=m.map .int∧k m
noncomputable def opSum:Fn:=fun vs hp K=>a1 vs fun o=>aL hp o fun l=>intL l fun zz=>∀i,K (.int i) hp
noncomputable def opMax:Fn:=fun vs hp K=>a1 vs fun o=>aL hp o fun l=>intL l fun m=>m≠[]∧∀i,K (.int i) hp
noncomputable def opStr:Fn:=fun vs hp K=>a1 vs fun o=>vI o fun n=>(0≤n∧n<1000000)∧K (.str (C7 (toString n))) hp
noncomputable def opInt:Fn:=fun vs hp K=>a1 vs fun o=>vI o fun n=>K (.int n) hp
noncomputable def En:Fn:=fun vs hp K=>a1 vs fun o=>match o with
 | .int _=>K (.bool true) hp
 | .str _=>K (.bool false) hp
 | _=>False
noncomputable def CJ:Fn:=fun vs hp K=>a1 vs fun o=>match o with
 | .tup l=>K (.tup l) hp
 | o=>aL hp o fun l=>l.length≤4096∧K (.tup l) hp
noncomputable def oI (v:V) (k:Int→Option Bool):Option Bool:=match v with | .int i=>k i | _=>none
noncomputable def oS (v:V) (k:Str→Option Bool):Option Bool:=match v with | .str x=>k x | _=>none
noncomputable def oT (v:V) (k:List V→Option Bool):Option Bool:=match v with | .tup l=>k l | _=>none
noncomputable def oL (v:V) (k:List V→Option Bool):Option Bool:=match v with | .lst l=>k l | _=>none
mutual
noncomputable def ltV:V→V→Option Bool
 | .int i,v=>oI v fun j=>some (decide (i<j))
 | .str x,v=>oS v fun y=>some (decide (x.cps.toList<y.cps.toList))
 | .tup a,v=>oT v fun b=>Cj a b
 | .lst a,v=>oL v fun b=>Cj a b
 | _,_=>none
noncomputable def Cj:List V→List V→Option Bool
 | [],ys=>some !ys.isEmpty
 | x::xs,ys=>match ys with
  | []=>some false
  | y::ys=>if x=y then Cj xs ys else ltV x y
end
@[reducible] noncomputable def Asc (l:List V):Prop:=l.Pairwise fun a b=>ltV a b=some true
noncomputable def Eo (v:V):Prop:=∃i r,v= .tup (.int i::r)
noncomputable def Hi (v:V):Prop:=∃i r,v= .tup (.str i::r)
structure Srt (l:List V):Prop where
 k:∀v∈l,V.cmp 8 v=true
 h:(∀v∈l,Eo v)∨∀v∈l,Hi v
 t:∀x∈l,∀y∈l,ltV x y≠none
 z:l.length<60
 n:l.Nodup
noncomputable def vals (hp:Hp) (v:V) (k:List V→Prop):Prop:=match v with
 | .lst l=>k l
 | .loc a=>pS (hp.f a) k fun d=>k (d.map (·.1))
 | _=>False
noncomputable def Ep:Fn:=fun vs hp K=>a1 vs fun o=>vals hp o fun l=>Srt l∧∀l':List V,l'.Perm l→Asc l'→K (.lst l') hp
noncomputable def DI:Fn:=fun vs hp K=>a1 vs fun o=>vals hp o fun l=>intL l fun m=>m.length<60∧∀m':List Int,m'.Perm m→m'.Pairwise (·≤·)→K (.lst (m'.map .int)) hp
noncomputable def Dd:P1:=fun o hp K=>aL hp o fun l=>(intL l (fun m=>m.length<60)∨(l.length≤2∧(∀v∈l,V.key 8 v=true∧Hi v)∧∀x∈l,∀y∈l,ltV x y≠none))∧
 ∀l':List V,l'.Nodup→(∀v,v∈l'↔v∈l)→Asc l'→K (.lst l') hp
noncomputable def keysX (fn:Fn):List V→List V→Hp→(List V→Hp→Prop)→Prop
 | [],ks,hp,K=>K ks hp
 | v::r,ks,hp,K=>fn [v] hp fun k hp=>keysX fn r (ks++[k]) hp K
@[irreducible] noncomputable def Ca (fn:Fn):Fn:=fun vs hp K=>a1 vs fun o=>hD hp o fun a b d=>b=true∧d.length<60∧keysX fn (d.map (·.1)) [] hp fun ks hp'=>(hp'=hp∧Srt ks∧∀k∈ks,Eo k)∧
 ∀ks':List V,ks'.Perm ks→Asc ks'→K (.lst (ks'.map fun k=>(d.map (·.1)).getD (ks.idxOf k) .none)) hp
end
noncomputable section
noncomputable def lk:Lc→Nat→(V→Prop)→Prop
 | [],_,_=>False
 | o::r,i,k=>match i with
  | 0=>so o k
  | i+1=>lk r i k
noncomputable def cnd (b:Bool) (p q:Prop):Prop:=(b=true→p)∧(b=false→q)
noncomputable def recv (k:Nat) (hp:Hp) (v:V):Prop:=match k with
 | 0=>hL hp v fun zz zz=>True
 | 1=>hD hp v fun zz zz zz=>True
 | _=>vS v fun zz=>True
noncomputable def fmtA:P1:=fun a hp K=>vI a fun i=>(0≤i∧i<1000000)∧K (.str (C7 (toString i))) hp
noncomputable def unp (hp:Hp) (v:V) (n:Nat) (K:List V→Prop):Prop:=match v with
 | .tup l=>l.length=n∧K l
 | v=>aL hp v fun l=>l.length=n∧K l
@[reducible] noncomputable def KI:=List V→(Hp→Prop)→Hp→Prop
@[reducible] noncomputable def XI:=Lc→Hp→KI→Prop
@[reducible] noncomputable def tt:Hp→Prop:=fun zz=>True
noncomputable def GP (v:V) (hp:Hp) (K:KI):Prop:=match v with
 | .tup l=>K l tt hp
 | .lst l=>K l tt hp
 | .str x=>x.cps.all (·<128)=true∧K (x.cps.toList.map fun c=>.str ⟨#[c]⟩) tt hp
 | .loc a=>pS (hp.f a) (fun l=>K l (fun hp=>hp.f a=some (.list l)) hp) fun d=>K (d.map (·.1)) (fun hp=>hp.f a=some (.dict true d)) hp
 | _=>False
noncomputable def EU (a:Int):Nat→List V
 | 0=>[]
 | n+1=>.int a::EU (a+1) n
noncomputable def rngK (vs:List V) (hp:Hp) (K:KI):Prop:=match vs with
 | [v]=>vI v fun n=>(-4096≤n∧n≤4096)∧K (EU 0 n.toNat) tt hp
 | v::w=>a1 w fun w=>vI v fun a=>vI w fun b=>((0≤a∧a≤4096)∧-4096≤b∧b≤4096)∧K (EU a (b - a).toNat) tt hp
 | _=>False
noncomputable def enm (l:List V):List V:=l.mapIdx fun i v=>.tup [.int i,v]
noncomputable def enmK (vs:List V) (hp:Hp) (K:KI):Prop:=a1 vs fun v=>match v with
 | .tup l=>K (enm l) tt hp
 | .loc a=>pL (hp.f a) fun l=>K (enm l) (fun hp=>hp.f a=some (.list l)) hp
 | _=>False
noncomputable def Co (l r:List V):List V:=List.zipWith (fun x y=>V.tup [x,y]) l r
noncomputable def zipK (vs:List V) (hp:Hp) (K:KI):Prop:=a2 vs fun v w=>vT v fun l=>vT w fun r=>K (Co l r) tt hp
section
variable {β:Type}
noncomputable def BH (b:β):XE β:=fun zz hp K=>K b hp
noncomputable def BB (i:Nat):XE V:=fun lc hp K=>lk lc i fun v=>K v hp
noncomputable def BJ (f:P2) (a b:XE V):XE V:=fun lc hp K=>a lc hp fun v hp=>b lc hp fun w hp=>f v w hp K
noncomputable def xun (f:P1) (a:XE V):XE V:=fun lc hp K=>a lc hp fun v hp=>f v hp K
noncomputable def Bj:List (XE V)→XE (List V)
 | []=>fun zz hp K=>K [] hp
 | m::r=>fun lc hp K=>m lc hp fun v hp=>Bj r lc hp fun vs hp=>K (v::vs) hp
noncomputable def BW (ms:List (XE V)):XE V:=fun lc hp K=>Bj ms lc hp fun vs hp=>K (.tup vs) hp
noncomputable def Bg (x:XE (List V)):XE V:=fun lc hp K=>x lc hp fun l hp=>K (.lst l) hp
noncomputable def Bv (x:XE (List V)):XE V:=fun lc hp K=>x lc hp fun l hp=>K (.loc hp.n) (hp.alloc (.list l))
noncomputable def xcat (a b:XE V):XE (List V):=fun lc hp K=>a lc hp fun v hp=>b lc hp fun w hp=>aL hp v fun l=>aL hp w fun r=>l.length+r.length≤4096∧K (l++r) hp
noncomputable def xbl (f:List V→Hp→(List V→Hp→Prop)→Prop) (ms:List (XE V)):XE (List V):=fun lc hp K=>Bj ms lc hp fun vs hp=>f vs hp K
noncomputable def Hj (vs:List V) (hp:Hp) (K:List V→Hp→Prop):Prop:=a1 vs fun v=>aL hp v fun l=>l.length≤4096∧K l hp
noncomputable def xpairs:List (XE V×XE V)→XE (List (V×V))
 | []=>fun zz hp K=>K [] hp
 | m::r=>fun lc hp K=>m.1 lc hp fun k hp=>m.2 lc hp fun v hp=>xpairs r lc hp fun vs hp=>K ((k,v)::vs) hp
noncomputable def Hk (i:Nat):List (V×V)→Hp→(Hp→Prop)→Prop
 | [],hp,N=>N hp
 | p::r,hp,N=>Em (.loc i) p.1 p.2 hp fun hp=>Hk i r hp N
noncomputable def Bx (ms:List (XE V×XE V)):XE V:=fun lc hp K=>xpairs ms lc (hp.alloc (.dict true [])) fun l hp'=>Hk hp.n l hp' (K (.loc hp.n))
noncomputable def GQ (acc:Str):List (XE V)→XE V
 | []=>fun zz hp K=>K (.str acc) hp
 | m::r=>fun lc hp K=>m lc hp fun v hp=>vS v fun y=>(acc++y).length≤4096∧GQ (acc++y) r lc hp K
noncomputable def xtb (x:XE V):XE Bool:=fun lc hp K=>x lc hp fun v hp=>vB v fun b=>K b hp
noncomputable def xnot (x:XE Bool):XE Bool:=fun lc hp K=>x lc hp fun b hp=>K (!b) hp
noncomputable def xor (x y:XE Bool):XE Bool:=fun lc hp K=>x lc hp fun b hp=>cnd b (K true hp) (y lc hp K)
noncomputable def xandV (x y:XE V):XE V:=fun lc hp K=>x lc hp fun v hp=>vB v fun b=>cnd b (y lc hp K) (K (.bool false) hp)
noncomputable def xite (c:XE Bool) (x y:XE β):XE β:=fun lc hp K=>c lc hp fun b hp=>cnd b (x lc hp K) (y lc hp K)
noncomputable def BK (fn:Fn) (ms:List (XE V)):XE V:=fun lc hp K=>Bj ms lc hp fun vs hp=>fn vs hp K
noncomputable def BV (C:Addr) (fn:Fn) (o:XE V) (ms:List (XE V)):XE V:=fun lc hp K=>o lc hp fun o hp=>hI hp C o (fun zz zz=>True)∧Bj ms lc hp fun vs hp=>fn (o::vs) hp K
noncomputable def xbm (k:Nat) (op:Fn) (o:XE V) (ms:List (XE V)):XE V:=fun lc hp K=>o lc hp fun o hp=>recv k hp o∧Bj ms lc hp fun vs hp=>op (o::vs) hp K
noncomputable def xchain (f h:P2) (a b c:XE V):XE Bool:=fun lc hp K=>a lc hp fun a hp=>b lc hp fun b hp=>f a b hp fun v hp=>vB v fun t=>cnd t (c lc hp fun c hp=>h b c hp fun w hp=>vB w fun t=>K t hp) (K false hp)
noncomputable def Bi (e:XE V):XI:=fun lc hp K=>e lc hp fun v hp=>GP v hp K
noncomputable def ibc (f:List V→Hp→KI→Prop) (ms:List (XE V)):XI:=fun lc hp K=>Bj ms lc hp fun vs hp=>f vs hp K
noncomputable def Er (vs:List V) (hp:Hp) (K:List V→Hp→Prop):Prop:=rngK vs hp fun l zz hp=>K l hp
noncomputable def xextz (o a b:XE V):XE V:=fun lc hp K=>o lc hp fun o hp=>recv 0 hp o∧a lc hp fun x hp=>b lc hp fun y hp=>hL hp o fun a l=>vT x fun x=>vT y fun y=>l.length+x.length≤4096∧K .none (hp.put a (.list (l++Co x y)))
noncomputable def BF:XS:=fun lc hp N zz=>N lc hp
noncomputable def xno:XS:=fun zz zz zz zz=>False
noncomputable def xseq (a b:XS):XS:=fun lc hp N R=>a lc hp (fun lc hp=>b lc hp N R) R
noncomputable def BX (a:XE β):XS:=fun lc hp N zz=>a lc hp fun zz hp=>N lc hp
noncomputable def Ba (a:XE V):XS:=fun lc hp zz R=>a lc hp R
noncomputable def xif (c:XE Bool) (a b:XS):XS:=fun lc hp N R=>c lc hp fun t hp=>cnd t (a lc hp N R) (b lc hp N R)
noncomputable def setLc:Lc→Nat→Option V→Lc
 | [],_,_=>[]
 | o::r,i,x=>match i with
  | 0=>x::r
  | i+1=>o::setLc r i x
noncomputable def BO (a:XE V) (t:XT):XS:=fun lc hp N zz=>a lc hp fun v hp=>t v lc hp N
noncomputable def BE (i:Nat):XT:=fun v lc hp N=>N (setLc lc i (some v)) hp
noncomputable def xseqT:List XT→List V→Lc→Hp→(Lc→Hp→Prop)→Prop
 | [],vs,lc,hp,N=>(match vs with
  | []=>N lc hp
  | _=>False)
 | t::ts,vs,lc,hp,N=>(match vs with
  | []=>False
  | v::vs=>t v lc hp fun lc hp=>xseqT ts vs lc hp N)
noncomputable def Bw (ts:List XT):XT:=fun v lc hp N=>unp hp v ts.length fun vs=>xseqT ts vs lc hp N
noncomputable def De (st:St3) (o i:XE V):XT:=fun v lc hp N=>o lc hp fun o hp=>i lc hp fun i hp=>st o i v hp (N lc)
noncomputable def CN (C:Addr) (i:Nat) (o:XE V):XT:=fun v lc hp N=>o lc hp fun o hp=>setA C i o v hp (N lc)
noncomputable def names:List Nat→List XT
 | []=>[]
 | i::r=>BE i::names r
noncomputable def xswap (a:XE V) (is:List Nat):XS:=fun lc hp N zz=>a lc hp fun v hp=>unp hp v is.length fun vs=>xseqT (names is.reverse) vs.reverse lc hp N
noncomputable def xloop (t:XT) (m:XS) (g:Hp→Prop) (N:Lc→Hp→Prop) (R:KV):List V→Lc→Hp→Prop
 | [],lc,hp=>g hp∧N lc hp
 | v::vs,lc,hp=>g hp∧t v lc hp fun lc hp=>m lc hp (xloop t m g N R vs) R
noncomputable def Ck (i:XI) (t:XT) (m:XS):XS:=fun lc hp N R=>i lc hp fun vs g hp=>xloop t m g N R vs lc hp
noncomputable def xwh (c:XE Bool) (m:XS) (N:Lc→Hp→Prop) (R:KV):Nat→Lc→Hp→Prop
 | 0,_,_=>False
 | n+1,lc,hp=>c lc hp fun b hp=>cnd b (m lc hp (xwh c m N R n) R) (N lc hp)
noncomputable def FR (c:XE Bool) (m:XS):XS:=fun lc hp N R=>∃n,xwh c m N R n lc hp
@[reducible] noncomputable def XM:=Lc→List V→Hp→(Lc→List V→Hp→Prop)→Prop
noncomputable def BY (e:XE V):XM:=fun lc acc hp K=>e lc hp fun v hp=>acc.length≤4096∧K lc (acc++[v]) hp
noncomputable def DL (c:XE Bool) (m:XM):XM:=fun lc acc hp K=>c lc hp fun b hp=>cnd b (m lc acc hp K) (K lc acc hp)
noncomputable def xcl (t:XT) (m:XM) (g:Hp→Prop) (K:Lc→List V→Hp→Prop):List V→Lc→List V→Hp→Prop
 | [],lc,acc,hp=>g hp∧K lc acc hp
 | v::vs,lc,acc,hp=>g hp∧t v lc hp fun lc hp=>m lc acc hp (xcl t m g K vs)
noncomputable def Hl (i:XI) (t:XT) (m:XM):XM:=fun lc acc hp K=>i lc hp fun vs g hp=>xcl t m g K vs lc acc hp
noncomputable def DM:Lc→Nat→Option V
 | [],_=>none
 | o::r,i=>match i with
  | 0=>o
  | i+1=>DM r i
noncomputable def HD (lc:Lc):List Nat→Lc
 | []=>[]
 | i::r=>DM lc i::HD lc r
noncomputable def nones (k:Nat) (r:Lc):Lc:=match k with
 | 0=>r
 | k+1=>none::nones k r
noncomputable def Bf (nl:Nat) (caps:List Nat) (i:XI) (t:XT) (m:XM):XE (List V):=fun lc hp K=>i lc hp fun vs g hp=>xcl t m g (fun zz acc hp=>K acc hp) vs (nones nl (HD lc caps)) [] hp
noncomputable def pad:Nat→List V→Lc
 | 0,vs=>vs.map some
 | k+1,vs=>match vs with
  | []=>none::pad k []
  | v::vs=>some v::pad k vs
noncomputable def fnOf (k p:Nat) (m:XS):Fn:=fun vs hp K=>vs.length=p∧m (pad k vs) hp (fun zz hp=>K .none hp) K
noncomputable def HE (C:Addr) (fn:Fn):Fn:=fun vs hp K=>fn (.loc (hp.n+1)::vs) ((hp.alloc (.ns C [])).alloc (.inst C hp.n)) fun v hp'=>v= .none∧K (.loc (hp.n+1)) hp'
mutual
noncomputable def V.bd (n:Nat):V→Prop
 | .loc i=>i<n
 | .tup l=>V.bds n l
 | .lst l=>V.bds n l
 | _=>True
noncomputable def V.bds (n:Nat):List V→Prop
 | []=>True
 | v::r=>V.bd n v∧V.bds n r
end
theorem Dx {n:Nat}:∀{l:List V},(∀v∈l,V.bd n v)→V.bds n l:=by
 intro l
 induction l with
 | nil=>exact fun zz=>trivial
 | cons v r ih=>exact fun h=>⟨h v (.head _),ih fun v hv=>h v (.tail _ hv)⟩
theorem ok_bd {b:Bool} {m:Nat}:∀n v,V.ok b n v=true→V.bd m v:=V.okI (fun zz zz=>trivial) (fun zz zz zz=>trivial) (fun zz zz zz h=>Dx h) fun zz zz zz zz h=>Dx h
noncomputable def Cv (n:Nat) (hp:Hp) (v v':V):Prop:=(v'=v∧V.bd n v)∨∃a l,v= .loc a∧hp.f a=some (.list l)∧v'= .lst l∧n≤a∧V.bds n l
structure Cut (hp hp' hp1:Hp) (v v':V):Prop where
 n:hp1.length=hp.length
 c:∀i,i<hp.length→(hp'.f i=hp.f i∧hp1.f i=hp.f i)∨∃b d d',hp'.f i=some (.dict b d)∧hp1.f i=some (.dict b d')∧d.length=d'.length∧∀(j:Nat) p,d[j]?=some p→∃x,d'[j]?=some (p.1,x)∧Cv hp.length hp' p.2 x
 v:Cv hp.length hp' v v'
noncomputable def Do (hp:Hp) (K:KV) (v:V) (hp':Hp):Prop:=∃v' hp1,Cut hp hp' hp1 v v'∧K v' hp1
noncomputable def fnT (k p:Nat) (m:XS):Fn:=fun vs hp K=>vs.length=p∧m (pad k vs) hp (fun zz hp'=>Do hp K .none hp') (Do hp K)
theorem cutP {hp t:Hp} {v v':V} (h:Cv hp.length (hp++t) v v'):Cut hp (hp++t) hp v v':=⟨rfl,fun i hi=>.inl ⟨by refine wg (CM ..) (wg (CM ..) ?_);exact J7 hi,rfl⟩,h⟩
end
end
set_option genInjectivity false
structure Gl where
 prog:Program
 w:World
 h₀:Heap
 os:OsState
 K:Frag
 fl:Addr→List Str
 mg:Str→Option Value
 mb:Str→Option Value
 p:Program
 loose:List Str
 KX:K.In h₀
 T:TopRead p loose mg mb h₀
@[reducible] noncomputable def Gl.m (g:Gl):Model:=model g.prog g.w
noncomputable def CQ (h:Heap) (ρ:Rho):List Str→List V→List DictEntry→Prop
 | xs,[],es=>es=[]
 | xs,v::r,es=>∃x xs' e t es',xs=x::xs'∧es=e::es'∧e.key= .str x t∧RV h ρ v e.val∧CQ h ρ xs' r es'
noncomputable def RO (g:Gl) (h:Heap) (ρ:Rho) (a:Addr):PO→Prop
 | .list l=>∃us n,h.get? a=some (BL us n)∧RVs h ρ l us.toList
 | .dict b l=>∃es n,h.get? a=some {cls:= .type "dict",data:= .dict es n}∧BQ g.w h ρ l es.toList∧(∀p∈l,V.key 8 p.1=true)∧(l.map (·.1)).Nodup∧(b=true→n=es.size)
 | .inst c d=>∃b,ρ.l[d]?=some b∧h.get? a=some (instObj c b)
 | .ns c l=>∃es n,h.get? a=some (dictOf es n)∧CQ h ρ (g.fl c) l es∧(g.fl c).Nodup∧l.length≤900
structure RH (g:Gl) (ρ:Rho) (hp:Hp) (h:Heap):Prop where
 len:ρ.l.length=hp.length
 nodup:ρ.l.Nodup
 objs:∀i o,hp.f i=some o→∃a,ρ.l[i]?=some a∧RO g h ρ a o
 nt:∀a∈ρ.l,g.h₀.objs.size≤a∧a<h.objs.size
 pt:∀a∈ρ.p,a∉ρ.l∧g.h₀.objs.size≤a∧a<h.objs.size
 base:∀b o,g.h₀.get? b=some o→h.get? b=some o
 size:g.h₀.objs.size≤h.objs.size
noncomputable def RS (g:Gl) (ρ:Rho) (hp:Hp) (s:Shared):Prop:=RH g ρ hp s.heap∧s.gens=#[]∧s.os=g.os
structure Ext (own:List Addr) (ρ:Rho) (h:Heap) (ρ':Rho) (h':Heap):Prop where
 pre:∃t,ρ'.l=ρ.l++t∧∀a∈t,h.objs.size≤a
 p:ρ'.p=ρ.p
 size:h.objs.size≤h'.objs.size
 keep:∀b o,h.get? b=some o→b∉ρ.l→b∉own→h'.get? b=some o
section
variable {own own':List Addr} {ρ ρ' ρ'':Rho} {h h' h'':Heap} {a:Addr} {g:Gl} {hp:Hp}
theorem Ext.refl:Ext own ρ h ρ h:=⟨⟨[],(D8 _).symm,fun zz m=>nomatch m⟩,rfl,B2 _,fun zz zz e zz zz=>e⟩
theorem Ext.nin (x:Ext own ρ h ρ' h') (hl:a<h.objs.size) (hn:a∉ρ.l):a∉ρ'.l:=fun m=>by
 refine BD x.pre fun t e ht=>?_
 rw[e] at m
 exact (C5.mp m).elim hn fun m=>b7.mpr hl (ht a m)
theorem Ext.trans (x:Ext own ρ h ρ' h') (y:Ext own ρ' h' ρ'' h''):Ext own ρ h ρ'' h'':=by
 refine BD x.pre fun t e ht=>?_
 refine BD y.pre fun t' e' ht'=>?_
 exact ⟨⟨t++t',by exact wg e' (wg e (wg (E5 ..) rfl)),fun a m=>(C5.mp m).elim (ht a) fun m=>A3 x.size (ht' a m)⟩,y.p.trans x.p,A3 x.size y.size,
  fun b o e h1 h2=>y.keep b o (x.keep b o e h1 h2) (x.nin (G1 e) h1) h2⟩
theorem Ext.wider (x:Ext own ρ h ρ' h') (ho:∀a∈own,a∈own'):Ext own' ρ h ρ' h':=⟨x.pre,x.p,x.size,fun b o e h1 h2=>x.keep b o e h1 fun q=>h2 (ho _ q)⟩
theorem Ext.up (x:Ext [] ρ h ρ' h'):Ext own ρ h ρ' h':=x.wider fun zz m=>nomatch m
theorem Ext.idx (x:Ext own ρ h ρ' h') {i:Nat} (e:ρ.l[i]?=some a):ρ'.l[i]?=some a:=by
 refine BD x.pre fun t q zz=>?_
 refine wg q (wg (J7 (B6.mp e).1) ?_);exact e
theorem Ext.k (x:Ext own ρ h ρ' h') (ho:∀a∈own,a∈ρ.p):Bu h ρ h' ρ':=
 ⟨fun n e=>⟨⟨x.nin (G1 e) n.1,x.p▸n.2⟩,x.keep _ _ e n.1 fun m=>n.2 (ho _ m)⟩,x.idx⟩
theorem Ext.k0 (x:Ext [] ρ h ρ' h'):Bu h ρ h' ρ':=x.k fun zz m=>nomatch m
theorem CQ.keep (K:Bu h ρ h' ρ'):∀{l:List V} {xs:List Str} {es:List DictEntry},CQ h ρ xs l es→CQ h' ρ' xs l es:=by
 intro l
 induction l with
 | nil=>exact fun x=>x
 | cons v r ih=>exact fun x=>E9 (fun zz=>E9 fun zz=>E9 fun zz=>E9 fun zz=>E9 fun zz x=>⟨x.1,x.2.1,x.2.2.1,x.2.2.2.1.keep K,ih x.2.2.2.2⟩) x
theorem RO.keep (K:Bu h ρ h' ρ') (ha:∀o,h.get? a=some o→h'.get? a=some o):∀{po:PO},RO g h ρ a po→RO g h' ρ' a po:=by
 intro po
 cases po with
 | list l=>exact fun x=>E9 (fun zz=>E9 fun zz x=>⟨ha _ x.1,x.2.keep K⟩) x
 | dict b l=>exact fun x=>E9 (fun zz=>E9 fun zz x=>⟨ha _ x.1,x.2.1.keep K,x.2.2⟩) x
 | inst c d=>exact fun x=>E9 (fun zz x=>⟨K.p x.1,ha _ x.2⟩) x
 | ns c l=>exact fun x=>E9 (fun zz=>E9 fun zz x=>⟨ha _ x.1,x.2.1.keep K,x.2.2⟩) x
theorem RH.lt (S:RH g ρ hp h) {i:Nat} (e:ρ.l[i]?=some a):i<hp.length:=S.len▸(B6.mp e).1
theorem RH.one (S:RH g ρ hp h) {i j:Nat} (e:ρ.l[i]?=some a) (e':ρ.l[j]?=some a):i=j:=(List.getElem?_inj (B6.mp e).1 S.nodup).mp (e.trans e'.symm)
theorem RH.same (S:RH g ρ hp h) (hk:∀b o,h.get? b=some o→h'.get? b=some o) (sz:h.objs.size≤h'.objs.size):RH g ρ hp h'∧Ext [] ρ h ρ h':=
 have X:Ext [] ρ h ρ h':=⟨Ext.refl.pre (own:=[]) (h:=h),rfl,sz,fun b o e zz zz=>hk b o e⟩
 ⟨⟨S.len,S.nodup,fun i o e=>(S.objs i o e).imp fun a w=>⟨w.1,w.2.keep X.k0 (hk a)⟩,fun a m=>⟨(S.nt a m).1,A9 (S.nt a m).2 sz⟩,
  fun a m=>⟨(S.pt a m).1,(S.pt a m).2.1,A9 (S.pt a m).2.2 sz⟩,fun b o e=>hk b o (S.base b o e),A3 S.size sz⟩,X⟩
theorem BG (x:K5 a h h') {b:Addr} {o:Obj} (e:h.get? b=some o) (hb:b≠a):h'.get? b=some o:=(x.2 b hb).trans e
theorem RH.chg (S:RH g ρ hp h) (hs:K5 a h h') (hm:a∈ρ.l∨a∈ρ.p) {hp':Hp} (hn:hp'.length=hp.length)
  (ho:∀i o,hp'.f i=some o→(∃b,ρ.l[i]?=some b∧b≠a∧hp.f i=some o)∨∃b,ρ.l[i]?=some b∧(Bu h ρ h' ρ→RO g h' ρ b o)):RH g ρ hp' h'∧Ext (if a∈ρ.l then [] else [a]) ρ h ρ h':=by
 have lo:g.h₀.objs.size≤a:=hm.elim (fun m=>(S.nt a m).1) fun m=>(S.pt a m).2.1
 have K:Bu h ρ h' ρ:=⟨fun n e=>⟨n,BG hs e fun q=>hm.elim (fun m=>n.1 (q▸m)) fun m=>n.2 (q▸m)⟩,id⟩
 refine ⟨⟨hn▸S.len,S.nodup,fun i o e=>?_,hs.1▸S.nt,hs.1▸S.pt,fun b o e=>BG hs (S.base b o e) fun q=>G4.mpr lo (q▸G1 e),hs.1▸S.size⟩,⟨Ext.refl.pre (own:=[]) (h:=h),rfl,B3 hs.1.symm,fun b o e h1 h2=>BG hs e fun q=>?_⟩⟩
 ·rcases ho i o e with ⟨b,h1,h2,h3⟩ | ⟨b,h1,h2⟩
  ·refine BD (S.objs i o h3) fun c h4 h5=>?_
   rw[h1] at h4;cases h4
   exact ⟨b,h1,h5.keep K fun o e=>BG hs e h2⟩
  ·exact ⟨b,h1,h2 K⟩
 ·subst q
  rw[if_neg h1] at h2
  exact h2 (.head _)
theorem RH.putAt (S:RH g ρ hp h) {i:Nat} {po:PO} (ha:ρ.l[i]?=some a) (hs:K5 a h h') (hr:Bu h ρ h' ρ→RO g h' ρ a po):RH g ρ (hp.put i po) h'∧Ext [] ρ h ρ h':=by
 have hm:=B9 ha
 have q:=S.chg (hp':=hp.put i po) hs (.inl hm) DT fun j o e=>by
  by_cases hj:i=j
  ·subst hj;rw[CG (S.lt ha)] at e;cases e;exact .inr ⟨a,ha,hr⟩
  ·rw[Bb hj] at e
   refine BD (S.objs j o e) fun b h1 zz=>?_
   exact .inl ⟨b,h1,fun q=>hj (S.one ha (q▸h1)),e⟩
 rw[if_pos hm] at q;exact q
theorem RH.chgP (S:RH g ρ hp h) (hp':a∈ρ.p) (hs:K5 a h h'):RH g ρ hp h'∧Ext [a] ρ h ρ h':=by
 have hn:=(S.pt a hp').1
 have q:=S.chg (hp':=hp) hs (.inr hp') rfl fun i o e=>by
  refine BD (S.objs i o e) fun b h1 zz=>?_
  exact .inl ⟨b,h1,fun q=>hn (q▸B9 h1),e⟩
 rw[if_neg hn] at q;exact q
theorem RH.show' (S:RH g ⟨ρ.l,a::ρ.p⟩ hp h):RH g ρ hp h∧Bu h ⟨ρ.l,a::ρ.p⟩ h ρ:=
 have K:Bu h ⟨ρ.l,a::ρ.p⟩ h ρ:=⟨fun n e=>⟨⟨n.1,fun m=>n.2 (.tail _ m)⟩,e⟩,id⟩
 ⟨⟨S.len,S.nodup,fun i o e=>(S.objs i o e).imp fun b w=>⟨w.1,w.2.keep K fun zz e=>e⟩,S.nt,fun b m=>S.pt b (.tail _ m),S.base,S.size⟩,K⟩
theorem RH.adopt (S:RH g ⟨ρ.l,a::ρ.p⟩ hp h) {po:PO} (hr:Bu h ⟨ρ.l,a::ρ.p⟩ h ⟨ρ.l++[a],ρ.p⟩→RO g h ⟨ρ.l++[a],ρ.p⟩ a po) (ha:a∉ρ.p):
  RH g ⟨ρ.l++[a],ρ.p⟩ (hp.alloc po) h∧Bu h ⟨ρ.l,a::ρ.p⟩ h ⟨ρ.l++[a],ρ.p⟩:=by
 have na:=S.pt a (.head _)
 have K:Bu h ⟨ρ.l,a::ρ.p⟩ h ⟨ρ.l++[a],ρ.p⟩:=⟨fun n e=>⟨⟨fun m=>(C5.mp m).elim n.1 fun m=>n.2 (A8.mp m▸.head _),fun m=>n.2 (.tail _ m)⟩,e⟩,
  fun {i b} e=>by refine wg (J7 (B6.mp e).1) ?_;exact e⟩
 refine ⟨⟨?_,?_,fun i o e=>?_,fun b m=>(C5.mp m).elim (S.nt b) fun m=>A8.mp m▸na.2,fun b m=>⟨fun m'=>(C5.mp m').elim (S.pt b (.tail _ m)).1 fun m'=>ha (A8.mp m'▸m),(S.pt b (.tail _ m)).2⟩,S.base,S.size⟩,K⟩
 ·refine wg A7 (wg A7 (wh S.len ?_));rfl
 ·exact Y6.mpr ⟨S.nodup,by simp,fun x hx y hy q=>na.1 (A8.mp hy▸q▸hx)⟩
 ·by_cases hi:i<hp.length
  ·rw[CM,J7 hi,←CM] at e
   refine BD (S.objs i o e) fun b h1 h2=>?_
   exact ⟨b,K.p h1,h2.keep K fun zz e=>e⟩
  ·have:=DF e
   rw[A7,List.length_singleton] at this
   obtain rfl:i=hp.length:=L9 (E6 this) (G4.mp hi)
   rw[alloc_at] at e;cases e
   exact ⟨a,by refine wh S.len ?_;exact V8,hr K⟩
theorem RH.newP (S:RH g ρ hp h) (hk:∀b o,h.get? b=some o→h'.get? b=some o) (sz:h.objs.size≤h'.objs.size) (ha:h.objs.size≤a) (ha':a<h'.objs.size):RH g ⟨ρ.l,a::ρ.p⟩ hp h'∧Bu h ρ h' ⟨ρ.l,a::ρ.p⟩∧a∉ρ.p:=by
 have K:Bu h ρ h' ⟨ρ.l,a::ρ.p⟩:=⟨fun n e=>⟨⟨n.1,fun m=>(C4.mp m).elim (fun q=>G4.mpr ha (q▸G1 e)) n.2⟩,hk _ _ e⟩,id⟩
 exact ⟨⟨S.len,S.nodup,fun i o e=>(S.objs i o e).imp fun b w=>⟨w.1,w.2.keep K (hk b)⟩,fun b m=>⟨(S.nt b m).1,A9 (S.nt b m).2 sz⟩,
  fun b m=>(C4.mp m).elim (fun q=>by subst q;exact ⟨fun m=>G4.mpr ha (S.nt _ m).2,A3 S.size ha,ha'⟩) fun m=>have q:=S.pt b m;⟨q.1,q.2.1,A9 q.2.2 sz⟩,fun b o e=>hk b o (S.base b o e),A3 S.size sz⟩,K,fun m=>G4.mpr ha (S.pt a m).2.2⟩
theorem BC {o:Obj}:∀b x,h.get? b=some x→(h.push o).get? b=some x:=fun zz zz e=>Heap.get?_push_of_some _ e
theorem Bd {o:Obj}:h.objs.size≤(h.push o).objs.size:=by refine wg (H8 ..) ?_;exact O9 _
theorem Cy {o:Obj}:h.objs.size<(h.push o).objs.size:=by refine wg (H8 ..) ?_;exact G7 _
theorem RH.push (S:RH g ρ hp h) {o:Obj}:RH g ρ hp (h.push o)∧Ext [] ρ h ρ (h.push o):=S.same BC Bd
theorem RH.fresh (S:RH g ρ hp h):ρ.ni h.objs.size:=⟨fun m=>N9 _ (S.nt _ m).2,fun m=>N9 _ (S.pt _ m).2.2⟩
theorem RH.newAt (S:RH g ρ hp h) {po:PO} (hk:∀b o,h.get? b=some o→h'.get? b=some o) (sz:h.objs.size≤h'.objs.size) (ha:h.objs.size≤a) (ha':a<h'.objs.size)
  (hr:Bu h ρ h' ⟨ρ.l++[a],ρ.p⟩→RO g h' ⟨ρ.l++[a],ρ.p⟩ a po):RH g ⟨ρ.l++[a],ρ.p⟩ (hp.alloc po) h'∧Ext [] ρ h ⟨ρ.l++[a],ρ.p⟩ h':=by
 refine an3 (S.newP hk sz ha ha') fun S1 K1 n1=>?_
 have X:Ext [] ρ h ⟨ρ.l++[a],ρ.p⟩ h':=⟨⟨[a],rfl,fun b m=>A8.mp m▸ha⟩,rfl,sz,fun b o e zz zz=>hk b o e⟩
 exact ⟨(S1.adopt (fun zz=>hr X.k0) n1).1,X⟩
theorem RH.at_ (S:RH g ρ hp h):(ρ.l++[a])[hp.length]?=some a:=by refine wh S.len ?_;exact V8
end
section
variable {g:Gl} {ρ ρ':Rho} {hp:Hp} {s:Shared} {h h':Heap} {v:V} {u:Value} {C:Value→Prop}
theorem iE {k:Int→Prop} (q:vI v k) (x:RV h ρ v u) (c:∀i t,k i→C (.int i t)):C u:=by
 cases v with
 | int i=>refine ex1 x fun t hh1=>?_;clear x;obtain rfl:=hh1;exact c i t q
 | _=>exact q.elim
theorem sE {k:Str→Prop} (q:vS v k) (x:RV h ρ v u) (c:∀i t,k i→C (.str i t)):C u:=by
 cases v with
 | str i=>refine ex1 x fun t hh1=>?_;clear x;obtain rfl:=hh1;exact c i t q
 | _=>exact q.elim
theorem bE {k:Bool→Prop} (q:vB v k) (x:RV h ρ v u) (c:∀b,k b→C (.bool b)):C u:=by
 cases v with
 | bool b=>refine wg (show u= .bool b from x) ?_;exact c b q
 | _=>exact q.elim
structure IsT (h:Heap) (ρ:Rho) (l:List V) (a:Addr) (us:Array Value):Prop where
 o:h.get? a=some (CY us)
 x:ρ.ni a
 r:RVs h ρ l us.toList
 z:l.length=us.size
structure IsL (h:Heap) (ρ:Rho) (l:List V) (a:Addr) (us:Array Value) (n:Nat):Prop where
 o:h.get? a=some (BL us n)
 r:RVs h ρ l us.toList
 z:l.length=us.size
theorem tR {l:List V} (x:RV h ρ (.tup l) u) (c:∀a us,IsT h ρ l a us→C (.ref a)):C u:=by
 refine CE x fun a us hh2 hh3 h3=>?_;clear x;obtain rfl:=hh2;refine an2 hh3 fun h1 h2=>?_;clear hh3
 exact c a us ⟨h1,h2,h3,by exact wg h3.len (wg C3 rfl)⟩
theorem tE {k:List V→Prop} (q:vT v k) (x:RV h ρ v u) (c:∀l a us,k l→IsT h ρ l a us→C (.ref a)):C u:=by
 cases v with
 | tup l=>exact tR x fun a us t=>c l a us q t
 | _=>exact q.elim
theorem nE {k:Nat→Prop} (q:vN v k) (x:RV h ρ v u) (c:∀i a,k i→ρ.l[i]?=some a→C (.ref a)):C u:=by
 cases v with
 | loc i=>refine BD x fun a hh1 e=>?_;clear x;obtain rfl:=hh1;exact c i a q e
 | _=>exact q.elim
theorem pLE {o:Option PO} {k:List V→Prop} (q:pL o k):∃l,o=some (.list l)∧k l:=by
 unfold pL at q
 cases o with
 | none=>exact q.elim
 | some o=>cases o with
  | list l=>exact ⟨l,rfl,q⟩
  | _=>exact q.elim
theorem lR (S:RH g ρ hp h) {i:Nat} {a:Addr} {k:List V→Prop} {C:Prop} (e:ρ.l[i]?=some a) (q:pL (hp.f i) k) (c:∀l us n,hp.f i=some (.list l)→IsL h ρ l a us n→k l→C):C:=by
 refine BD (pLE q) fun l e' q=>?_
 refine BD (S.objs i _ e') fun b h1 hh=>?_;refine CU hh fun us n h2 h3=>?_;clear hh
 rw[e] at h1;cases h1
 exact c l us n e' ⟨h2,h3,by exact wg h3.len (wg C3 rfl)⟩ q
theorem lE (S:RH g ρ hp h) {k:Nat→List V→Prop} (q:hL hp v k) (x:RV h ρ v u) (c:∀i l a us n,ρ.l[i]?=some a→hp.f i=some (.list l)→IsL h ρ l a us n→k i l→C (.ref a)):C u:=
 nE q x fun i a q e=>lR S e q fun l us n e' L q=>c i l a us n e e' L q
theorem aE (S:RH g ρ hp h) {k:List V→Prop} (q:aL hp v k) (x:RV h ρ v u) (c:∀l a us n,k l→IsL h ρ l a us n→C (.ref a)):C u:=by
 cases v with
 | loc i=>refine BD x fun a hh1 e=>?_;clear x;obtain rfl:=hh1;exact lR S e q fun l us n zz L q=>c l a us n q L
 | lst l=>refine Dw x fun a us n hh3 hh4 h3=>?_;clear x;obtain rfl:=hh3;refine an2 hh4 fun h1 h2=>?_;clear hh4;exact c l a us n q ⟨h1,h3,by exact wg h3.len (wg C3 rfl)⟩
 | _=>exact q.elim
@[reducible] noncomputable def HF (es:Array DictEntry) (n:Nat):Obj:={cls:= .type "dict",data:= .dict es n}
structure IsD (w:World) (h:Heap) (ρ:Rho) (b:Bool) (d:List (V×V)) (a:Addr) (es:Array DictEntry) (n:Nat):Prop where
 o:h.get? a=some (HF es n)
 e:BQ w h ρ d es.toList
 k:∀p∈d,V.key 8 p.1=true
 nd:(d.map (·.1)).Nodup
 b:b=true→n=es.size
 z:d.length=es.size
theorem dR (S:RH g ρ hp h) {i:Nat} {a:Addr} {b:Bool} {d:List (V×V)} {C:Prop} (e:ρ.l[i]?=some a) (e':hp.f i=some (.dict b d)) (c:∀es n,IsD g.w h ρ b d a es n→C):C:=by
 obtain ⟨_,h1,es,n,h2,h3,h4,h5,h6⟩:=S.objs i _ e'
 rw[e] at h1;cases h1
 exact c es n ⟨h2,h3,h4,h5,h6,by exact wg h3.len (wg C3 rfl)⟩
theorem dE (S:RH g ρ hp h) {k:Nat→Bool→List (V×V)→Prop} (q:hD hp v k) (x:RV h ρ v u) (c:∀i b d a es n,ρ.l[i]?=some a→hp.f i=some (.dict b d)→IsD g.w h ρ b d a es n→k i b d→C (.ref a)):C u:=
 nE q x fun i a q e=>by
  cases e':hp.f i with
  | none=>rw[e'] at q;unfold pD at q;exact q.elim
  | some o=>cases o with
   | dict b d=>rw[e'] at q;unfold pD at q;exact dR S e e' fun es n D=>c i b d a es n e e' D q
   | _=>rw[e'] at q;unfold pD at q;exact q.elim
structure IsO (g:Gl) (h:Heap) (ρ:Rho) (C:Addr) (l:List V) (d:Nat) (a b:Addr) (es:List DictEntry) (n:Nat):Prop where
 d:ρ.l[d]?=some b
 o:h.get? a=some (instObj C b)
 s:h.get? b=some (dictOf es n)
 e:CQ h ρ (g.fl C) l es
 nd:(g.fl C).Nodup
 z:l.length≤900
theorem oE (S:RH g ρ hp h) {C':Addr} {k:Nat→List V→Prop} (q:hI hp C' v k) (x:RV h ρ v u) (c:∀d l a b es n,hp.f d=some (.ns C' l)→IsO g h ρ C' l d a b es n→k d l→C (.ref a)):C u:=
 nE q x fun i a q1 e=>by
  cases e':hp.f i with
  | none=>rw[e'] at q1;unfold pI at q1;exact q1.elim
  | some o=>cases o with
   | inst c0 d=>
    rw[e'] at q1
    unfold pI at q1
    refine an2 q1 fun q2 q3=>?_;clear q1
    refine BD (S.objs i _ e') fun zz h1 hh=>?_;refine BD hh fun b h2 h3=>?_;clear hh
    rw[e] at h1;cases h1
    cases e2:hp.f d with
    | none=>rw[e2] at q3;unfold pN at q3;exact q3.elim
    | some o=>cases o with
     | ns c' l=>
      rw[e2] at q3
      unfold pN at q3
      refine an2 q3 fun q4 q5=>?_;clear q3
      refine BD (S.objs d _ e2) fun zz h4 hh=>?_;refine DJ hh fun es n h5 h6 h7 h8=>?_;clear hh
      rw[h2] at h4;cases h4
      rw[q4] at h6 h7 e2
      rw[q2] at h3
      exact c d l a b es n e2 ⟨h2,h3,h5,h6,h7,h8⟩ q5
     | _=>rw[e2] at q3;unfold pN at q3;exact q3.elim
   | _=>rw[e'] at q1;unfold pI at q1;exact q1.elim
noncomputable def Fin (g:Gl) (ρ:Rho) (h:Heap) (K:KV) (Q:Value→Shared→Prop):Prop:=∀{v hp u ρ' s},K v hp→RS g ρ' hp s→Ext [] ρ h ρ' s.heap→RV s.heap ρ' v u→Q u s
variable {K:KV} {Q:Value→Shared→Prop} {l:List V} {us:Array Value} {t:Nat}
theorem Fin.at (k:Fin g ρ s.heap K Q) (S:RS g ρ hp s) (q:K v hp) (r:RV s.heap ρ v u):Q u s:=k q S .refl r
theorem Fin.tk (k:Fin g ρ s.heap K Q) (S:RS g ρ hp s) (q:K v hp) (r:RV s.heap ρ v u):Q u {s with toks:=t}:=k q (show RS g ρ hp {s with toks:=t} from S) .refl r
theorem Fin.up {h1:Heap} {ρ1:Rho} (k:Fin g ρ h K Q) (X:Ext [] ρ h ρ1 h1):Fin g ρ1 h1 K Q:=fun q S X' r=>k q S (X.trans X') r
theorem RH.tup (S:RH g ρ hp h) (r:RVs h ρ l us.toList):RH g ρ hp (h.push (CY us))∧Ext [] ρ h ρ (h.push (CY us))∧RV (h.push (CY us)) ρ (.tup l) (.ref h.objs.size):=
 have q:=S.push
 ⟨q.1,q.2,_,us,rfl,⟨B0 _ rfl,S.fresh⟩,r.keep q.2.k0⟩
theorem RH.lst (S:RH g ρ hp h) (r:RVs h ρ l us.toList):RH g ρ hp (h.push (BL us 0))∧Ext [] ρ h ρ (h.push (BL us 0))∧RV (h.push (BL us 0)) ρ (.lst l) (.ref h.objs.size):=
 have q:=S.push
 ⟨q.1,q.2,_,us,0,rfl,⟨B0 _ rfl,S.fresh⟩,r.keep q.2.k0⟩
theorem Fin.tup (k:Fin g ρ s.heap K Q) (S:RS g ρ hp s) (r:RVs s.heap ρ l us.toList) (q:K (.tup l) hp):Q (.ref s.heap.objs.size) {s with heap:=s.heap.push (CY us)}:=
 have w:=S.1.tup r
 k q ⟨w.1,S.2⟩ w.2.1 w.2.2
theorem Fin.lst (k:Fin g ρ s.heap K Q) (S:RS g ρ hp s) (r:RVs s.heap ρ l us.toList) (q:K (.lst l) hp):Q (.ref s.heap.objs.size) {s with heap:=s.heap.push (BL us 0)}:=
 have w:=S.1.lst r
 k q ⟨w.1,S.2⟩ w.2.1 w.2.2
noncomputable def Rm (A:Around) (n:Nat):Prop:=A.handled=none∧A.depth+3*n≤990∧A.units+15*n+200≤cLine
theorem Rm.un {A:Around} {n:Nat} (h:Rm A n):A.units+170<cLine:=A9 (C2 (G3 (C0 A.units (15*n)) 170) (i5 (by decide:170<200) _)) h.2.2
end
set_option genInjectivity true
section
variable {g:Gl} {A:Around} {ρ:Rho} {hp:Hp} {s:Shared} {a b:V} {u v:Value} {K:KV} {Q:Value→Shared→Prop} {E:Value→Shared→Prop}
noncomputable def NO2 (g:Gl) (A:Around) (t:Value→Value→Sem Value) (f:P2):Prop:=∀{s ρ hp a b u v K},RS g ρ hp s→RV s.heap ρ a u→RV s.heap ρ b v→f a b hp K→∀{Q E},Fin g ρ s.heap K Q→wpAny g.m A (t u v) Q E s
theorem nil_of {l:List V} {us:Array Value} (z:l.length=us.size) (e:us.isEmpty=true):l=[]:=by
 rw[Array.isEmpty_iff_size_eq_zero,←z] at e
 exact N8.mp e
theorem fit {n:Nat} (h:n≤4096):n≤sizeLine:=by refine wg M0 ?_;exact A3 h (by decide)
theorem o_add:NO2 g A (binaryOp .Add) CB:=by
 intro s ρ hp a b u v K S x y q Q E k
 cases a with
 | int i=>exact iE (C:=fun v=>wpAny _ _ (binaryOp _ _ v) _ _ _) q y fun j t' q=>by refine ex1 x fun t hh1=>?_;clear x;obtain rfl:=hh1;exact add_int (k.tk S q ⟨_,rfl⟩)
 | str i=>exact sE (C:=fun v=>wpAny _ _ (binaryOp _ _ v) _ _ _) q y fun j t' q=>by refine ex1 x fun t hh1=>?_;clear x;obtain rfl:=hh1;exact add_str (fun t' tk=>k.tk S q.2 ⟨_,rfl⟩) (fit q.1)
 | tup l=>
  refine tE (C:=fun v=>wpAny _ _ (binaryOp _ _ v) _ _ _) q y fun r b us' q Y=>tR (C:=fun u=>wpAny _ _ (binaryOp _ u _) _ _ _) x fun a us X=>?_
  by_cases c1:us.isEmpty=true
  ·cases nil_of X.z c1
   exact concat_meets (prog:=g.prog) (w:=g.w) ⟨_,X.o,rfl⟩ ⟨_,Y.o,rfl⟩ noFill_tuple_add seq_tuple_add F.slot_tuple_add F.entry_tuple_add (F.args_tuple_add_2 _ _)
    (AutoSeq1.tuple___add___tuple_tuple_0 a us 0 b us' 0 c1) ⟨X.o,Y.o,k.at S q.2 ⟨_,_,rfl,⟨Y.o,Y.x⟩,Y.r⟩⟩
  ·by_cases c2:us'.isEmpty=true
   ·cases nil_of Y.z c2
    rw[D8] at q
    exact concat_meets (prog:=g.prog) (w:=g.w) ⟨_,X.o,rfl⟩ ⟨_,Y.o,rfl⟩ noFill_tuple_add seq_tuple_add F.slot_tuple_add F.entry_tuple_add (F.args_tuple_add_2 _ _)
     (AutoSeq1.tuple___add___tuple_tuple_1 a us 0 b us' 0 c1 c2) ⟨X.o,Y.o,k.at S q.2 ⟨_,_,rfl,⟨X.o,X.x⟩,X.r⟩⟩
   ·exact P.add_tuple X.o Y.o c1 c2 (k.tup S (us:=us++us') (by refine wg AH ?_;exact X.r.app Y.r) q.2) (by refine wh X.z (wh Y.z ?_);exact fit q.1)
 | _=>exact q.elim
theorem Di {t:Value→Value→Sem Value} {f:Int→Int→KV→Hp→Prop} (h:∀{s ρ hp i j t1 t2 K},RS g ρ hp s→f i j K hp→∀{Q E},Fin g ρ s.heap K Q→wpAny g.m A (t (.int i t1) (.int j t2)) Q E s):
  NO2 g A t fun a b hp K=>vI a fun i=>vI b fun j=>f i j K hp:=
 fun {_ _ _ _ _ _ v _} S x y q _ _ k=>iE (C:=fun u=>wpAny _ _ (t u v) _ _ _) q x fun i t1 q=>iE (C:=fun v=>wpAny _ _ (t _ v) _ _ _) q y fun j t2 q=>h S q k
theorem o_sub:NO2 g A (binaryOp .Sub) Fy:=Di (f:=fun i j K hp=>K (.int (i - j)) hp) fun S q zz zz k=>sub_int (k.tk S q ⟨_,rfl⟩)
theorem bits_small {i:Int} (h:i.natAbs<1000000):Builtin.Int.intBits i≤64:=by
 unfold Builtin.Int.intBits
 split
 ·decide
 ·have h2:i.natAbs.log2<40:=by
   by_cases hz:i.natAbs=0
   ·refine wg hz ?_;decide
   ·exact (Nat.log2_lt hz).mpr (U0 h (by decide))
  solve_by_elim (maxDepth:=5) [A3,G3,B7,C0,D5,A9,C2,E6,I7,B1,B2,G7]
theorem o_mul:NO2 g A (binaryOp .Mult) mulA:=Di (f:=fun i j K hp=>i.natAbs<1000000∧K (.int (i*j)) hp) fun S q zz zz k=>mul_int (k.tk S q.2 ⟨_,rfl⟩) (IntMulOk.of_left (bits_small q.1))
theorem o_fdiv:NO2 g A (binaryOp .FloorDiv) fdivA:=Di (f:=fun i j K hp=>(j≠0∧j.natAbs<1000000)∧K (.int (i.fdiv j)) hp) fun S q zz zz k=>floordiv_int q.1.1 (k.tk S q.2 ⟨_,rfl⟩) (.inl (PyProof.noPylong_small (U0 q.1.2 (by decide))))
theorem o_mod:NO2 g A (binaryOp .Mod) modA:=Di (f:=fun i j K hp=>j≠0∧K (.int (i.fmod j)) hp) fun S q zz zz k=>mod_int' q.1 (k.tk S q.2 ⟨_,rfl⟩)
theorem o_lt:NO2 g A (compareOp .Lt) ltA:=Di (f:=fun i j K hp=>K (.bool (decide (i<j))) hp) fun S q zz zz k=>lt_int (k.at S q rfl)
theorem o_le:NO2 g A (compareOp .LtE) leA:=Di (f:=fun i j K hp=>K (.bool (decide (i≤j))) hp) fun S q zz zz k=>le_int (k.at S q rfl)
theorem o_gt:NO2 g A (compareOp .Gt) gtA:=Di (f:=fun i j K hp=>K (.bool (decide (j<i))) hp) fun S q zz zz k=>gt_int (k.at S q rfl)
theorem GR {h:Heap} {l:List V} {a:Addr} {us:Array Value} {n m:Nat} (X:IsL h ρ l a us m) (k:V.ok true (n+1) (.lst l)=true):∃as,Reads h (.ref a) (V.lst l).pd as:=by
 have k':=(E3.mp k).2
 have all:=RVs.rec' (P:=fun l us=>l.all (V.ok true n)=true→∃as,ReadsAll h us (V.pds l) as) (fun zz=>⟨_,.nil⟩) (fun a zz ih k=>by
  have k:=E3.mp k
  refine ex1 (V.reads n _ k.1 a) fun zz h1=>?_
  refine ex1 (ih k.2) fun zz h2=>?_
  exact ⟨_,.cons h1 h2⟩) X.r k'
 refine ex1 all fun zz h=>?_;clear all
 exact ⟨_,.list X.o rfl rfl h⟩
theorem vwE {k:V→Prop} (S:RH g ρ hp s.heap) (q:vw hp a k) (x:RV s.heap ρ a u):∃d,k d∧(V.cmp 8 d=true→∃as,Reads s.heap u d.pd as):=by
 cases a with
 | loc i=>
  refine BD x fun a hh1 e=>?_;clear x;obtain rfl:=hh1
  exact lR S e q fun l us n zz X q=>⟨_,q,fun k=>GR X k⟩
 | _=>exact ⟨_,q,fun k=>V.reads 8 _ k x⟩
theorem o_eqv {n:Bool} {op:CmpOp}
  (h1:∀{s:Shared} {E:Value→Shared→Prop} {a b da db as bs} {Q:Value→Shared→Prop},Reads s.heap a da as→Reads s.heap b db bs→SeqAt.shaped da=true→SeqAt.shaped db=true→Q (.bool (AU da db^^n)) s→wpAny g.m A (compareOp op a b) Q E s):
  NO2 g A (compareOp op) (Bl n):=by
 intro s ρ hp a b u v K S x y q Q E k
 refine BD (vwE S.1 q x) fun da q ra=>?_
 refine BD (vwE S.1 q y) fun db hh1 rb=>?_;refine an2 hh1 fun hh0 q=>?_;clear hh1;refine an2 hh0 fun ka kb=>?_;clear hh0
 refine ex1 (ra ka) fun zz ra=>?_
 refine ex1 (rb kb) fun zz rb=>?_
 exact h1 ra rb (V.shaped ka (by decide)) (V.shaped kb (by decide)) (by refine wg (V.eqv 8 da ka 8 db kb) ?_;exact k.at S q rfl)
theorem o_eq {n:Nat} (hA:Rm A n):NO2 g A (compareOp .Eq) (Bl false):=o_eqv fun r r' p q h=>eq_dataH r r' p q (C2 (B7 (by decide) _) hA.un) (by rw[W7] at h;exact h)
theorem o_ne {n:Nat} (hA:Rm A n):NO2 g A (compareOp .NotEq) (Bl true):=o_eqv fun r r' p q h=>ne_dataH r r' p q (C2 (B7 (by decide) _) hA.un) (by rw[i9] at h;exact h)
theorem o_isn (S:RS g ρ hp s) {n:Bool} (x:RV s.heap ρ a u) (q:Hf n a hp K) (k:Fin g ρ s.heap K Q):wpAny g.m A (compareOp (if n then .IsNot else .Is) u .none) Q E s:=by
 have other:∀{r:Addr},Q (.bool n) s→wpAny g.m A (compareOp (if n then .IsNot else .Is) (.ref r) .none) Q E s:=fun h=>by
  cases n
  ·exact wpAny_is_other (by rfl) (by simp) h
  ·exact wpAny_isNot_other (by rfl) (by simp) h
 cases a with
 | none=>
  refine wg (show u= .none from x) ?_
  cases n
  ·exact wpAny_is_self (by rfl) (k.at S q rfl)
  ·exact wpAny_isNot_self (by rfl) (k.at S q rfl)
 | tup l=>exact tR (C:=fun u=>wpAny _ _ (compareOp _ u _) _ _ _) x fun zz zz zz=>other (k.at S q rfl)
 | loc i=>refine BD x fun a hh1 zz=>?_;clear x;obtain rfl:=hh1;exact other (k.at S q rfl)
 | _=>exact q.elim
theorem o_notInl {n:Nat} (hA:Rm A n):NO2 g A (compareOp .NotIn) (inlA true):=by
 intro s ρ hp a b u v K S x y q Q E k
 refine aE (C:=fun v=>wpAny _ _ (compareOp _ _ v) _ _ _) S.1 q y fun l b us n q Y=>?_
 obtain ⟨⟨kl,ka⟩,q⟩:=q
 obtain ⟨as,r⟩:=GR Y kl
 obtain ⟨bs,r'⟩:=V.reads 8 a ka x
 have hany:(V.pds l).any (fun y=>AU y a.pd)=decide (a∈l):=by
  have kl':=(E3.mp kl).2
  clear Y r q kl
  induction l with
  | nil=>exact (decide_eq_false fun m=>nomatch m).symm
  | cons v r ih=>
   have kl':=E3.mp kl'
   show (AU v.pd a.pd || (V.pds r).any _)=_
   refine wg (V.eqv _ v kl'.1 8 a ka) (wg (ih kl'.2) (wh (Bool.decide_or ..) ?_))
   exact decide_eq_decide.mpr (by rw[C4,eq_comm])
 exact SeqAt.notIn_list_reads r r' (SeqAt.canLay_of_shaped (V.shaped kl (by decide))) (SeqAt.canLay_of_shaped (V.shaped ka (by decide))) (C2 (B7 (A3 (t8 _ _) (V.lay 8 a ka).2) _) (un1 (n:=8) hA.un rfl)) (by refine wg hany ?_;rw[i9] at q;exact k.at S q rfl)
theorem o_ins:NO2 g A (compareOp .In) insA:=by
 intro s ρ hp a b u v K S x y q Q E k
 refine sE (C:=fun u=>wpAny _ _ (compareOp _ u _) _ _ _) q x fun x0 t q=>sE (C:=fun v=>wpAny _ _ (compareOp _ _ v) _ _ _) q y fun y0 t' q=>?_
 refine A1 ?_
 try with_reducible refine D4 ?_
 refine A1 (V2 (j8 _ _ _) AI.lookup ?_)
 refine wg (if_neg (by rw[beq_builtin_none];exact D3)) ?_
 refine A1 (wpAny_callSpecialUnlessNone?_slot (name:=C7 "__contains__") (j8 _ _ _) AI
  (call_gives AI (j8 _ _ _) F.entry_str_contains (F.args_str_contains_2 _ _) (gives_str_contains _ _ _ _) ?_))
 exact P9 (A5 (k.at S q rfl))
end
section
variable {l:List (V×V)} {k v:V}
theorem FS (h:at' l k=none):BR l k=none:=by unfold BR;refine wg h ?_;rfl
theorem FT {p:V×V} {j:Nat} (h:at' l k=some j) (hj:l[j]?=some p):BR l k=some p.2:=by unfold BR;refine wg h ?_;exact congrArg (V3 Prod.snd) hj
theorem at_get {j:Nat} (h:at' l k=some j):∃p,l[j]?=some (k,p):=by
 refine BD (J4.mp h) fun hj e zz=>?_
 exact ⟨l[j].2,by refine wg (B4 hj) ?_;exact congrArg some (Prod.ext (of_decide_eq_true e) rfl)⟩
theorem Fo:∀(l:List (V×V)) (j:Nat),((l.modify j fun p=>(p.1,v)).map (·.1))=l.map (·.1):=by
 intro l
 induction l with
 | nil=>exact fun j=>by cases j <;> rfl
 | cons p r ih=>exact fun j=>match j with
  | 0=>rfl
  | j+1=>congrArg (p.1::·) (ih j)
theorem Br.at (h:Br l k) (h1:∀p∈l,V.key 8 p.1=true):∀p∈l,V.key 8 p.1=true∧p.1.kind=k.kind:=fun p m=>⟨h1 p m,h.d p m⟩
end
section
variable {g:Gl} {A:Around} {E:Value→Shared→Prop} {ρ:Rho} {hp:Hp} {s:Shared} {b:Bool} {d:Addr} {l:List (V×V)} {es:Array DictEntry} {n i:Nat} {k v:V} {u y:Value}
theorem HG {Q:Option Value→Shared→Prop} (hu:A.units+80<cLine) (D:IsD g.w s.heap ρ b l d es n) (hk:Br l k) (x:RV s.heap ρ k u)
  (hsome:∀v u' tk,BR l k=some v→(at' l k).isSome=true→RV s.heap ρ v u'→Q (some u') {s with toks:=tk}) (hnone:∀tk,BR l k=none→(at' l k).isSome=false→Q none {s with toks:=tk}):
  wpAny g.m A (dictGet d u) Q E s:=by
 unfold dictGet
 try with_reducible refine D4 ?_
 refine A1 (Dc 8 k hk.y (un hu rfl) x (A1 (Dh (s:={s with toks:=s.toks+Cl k}) (un hu rfl) hk.y x D.o rfl D.e (hk.at D.k) D.nd ?_)))
 cases e:at' l k with
 | none=>exact A5 (hnone _ (FS e) (by refine wg e ?_;rfl))
 | some j=>
  refine ex1 (at_get e) fun p hp=>?_
  refine xa14 (D.e.get hp) fun en h3 zz zz h4=>?_
  refine A1 (Y7 (s:={s with toks:=s.toks+Cl k}) D.o rfl ?_)
  refine wh D7 (wg h3 ?_)
  exact A5 (hsome _ _ _ (FT e hp) (by refine wg e ?_;rfl) h4)
theorem Fp {α:Type} (a:Array α) (x:α):(a.push x).toList=a.toList++[x]:=U9
theorem put_heap (S:RH g ρ hp s.heap) (hd:ρ.l[i]?=some d) (D:IsD g.w s.heap ρ b l d es n) (hk:V.key 8 k=true) (x:RV s.heap ρ k u) (xv:RV s.heap ρ v y):
  (at' l k=none→RH g ρ (hp.put i (.dict b (Bc l k v))) (s.heap.update d (Obj.mapDictKeys (·.push ⟨BP g.w k,u,y⟩)))∧Ext [] ρ s.heap ρ (s.heap.update d (Obj.mapDictKeys (·.push ⟨BP g.w k,u,y⟩))))∧
  (∀j,at' l k=some j→RH g ρ (hp.put i (.dict b (Bc l k v))) (s.heap.update d (Obj.mapDict (·.modify j fun e=>{e with val:=y})))∧Ext [] ρ s.heap ρ (s.heap.update d (Obj.mapDict (·.modify j fun e=>{e with val:=y})))):=by
 refine ⟨fun hi=>?_,fun j hi=>?_⟩
 ·refine S.putAt hd (C9 ..) fun K=>?_
  have e:Bc l k v=l++[(k,v)]:=by unfold Bc;exact wg hi rfl
  have no:k∉l.map (·.1):=fun m=>by
   refine BD (B5.mp m) fun q hq e=>?_
   exact absurd (decide_eq_true e) (by refine wg (Y3.mp hi q hq) ?_;exact D3)
  refine wg e ?_
  exact ⟨_,_,F4 _ D.o rfl,by refine wg (Fp ..) ?_;exact (D.e.keep K).app (.cons ⟨rfl,x.keep K,xv.keep K⟩ .nil),fun p m=>(C5.mp m).elim (D.k p) fun m=>A8.mp m▸hk,
   by refine wg G5 ?_;exact Y6.mpr ⟨D.nd,by simp,fun a ha c hc q=>no ((show a=k from q.trans (A8.mp hc))▸ha)⟩,fun hb=>by exact wg (V4 ..) (wg (D.b hb) rfl)⟩
 ·refine S.putAt hd (C9 ..) fun K=>?_
  have e:Bc l k v=l.modify j fun p=>(p.1,v):=by unfold Bc;exact wg hi rfl
  refine wg e ?_
  refine ⟨_,_,F4 _ D.o rfl,by refine wg Array.toList_modify ?_;exact (D.e.keep K).set (xv.keep K) j,fun p m=>?_,by refine wg (Fo ..) ?_;exact D.nd,fun hb=>by exact wg Array.size_modify (wg (D.b hb) rfl)⟩
  have m:=H1 (f:=(·.1)) m
  rw[Fo] at m
  refine BD (B5.mp m) fun q hq e=>?_
  exact e▸D.k q hq
theorem HH (S:RS g ρ hp s) {Q:Unit→Shared→Prop} (hu:A.units+80<cLine) (hd:ρ.l[i]?=some d) (D:IsD g.w s.heap ρ b l d es n) (hk:Br l k) (x:RV s.heap ρ k u) (xv:RV s.heap ρ v y)
  (h:∀h' tk,RS g ρ (hp.put i (.dict b (Bc l k v))) {s with heap:=h',toks:=tk}→Ext [] ρ s.heap ρ h'→Q () {s with heap:=h',toks:=tk}):wpAny g.m A (dictSet d u y) Q E s:=by
 refine an2 (put_heap S.1 hd D hk.y x xv) fun p1 p2=>?_
 unfold dictSet
 try with_reducible refine D4 ?_
 refine A1 (Dc 8 k hk.y (un hu rfl) x ?_)
 unfold dictSetHashed
 try with_reducible refine D4 ?_
 refine A1 (Dh (s:={s with toks:=s.toks+Cl k}) (un hu rfl) hk.y x D.o rfl D.e (hk.at D.k) D.nd ?_)
 cases e:at' l k with
 | none=>exact A1 (Q6 (y9 (s:={s with toks:=s.toks+Cl k}) D.o rfl (h _ _ ⟨(p1 e).1,S.2⟩ (p1 e).2) (by refine wg M0 (wh D.z ?_);have:=hk.z;solve_by_elim (maxDepth:=5) [A3,G3,B7,C0,D5,A9,C2,E6,I7,B1,B2,G7])))
 | some j=>exact A1 (Q6 (A1 (wpAny_updateDict (s:={s with toks:=s.toks+Cl k}) D.o rfl (wpAny_point (h _ _ ⟨(p2 j e).1,S.2⟩ (p2 j e).2)))))
theorem FU (S:RS g ρ hp s) {Q:Value→Shared→Prop} (hu:A.units+80<cLine) (hd:ρ.l[i]?=some d) (D:IsD g.w s.heap ρ b l d es n) (hk:Br l k) (x:RV s.heap ρ k u) (xv:RV s.heap ρ v y)
  (hsome:∀v' u' tk,BR l k=some v'→RV s.heap ρ v' u'→Q u' {s with toks:=tk})
  (hnone:∀h' tk,BR l k=none→RS g ρ (hp.put i (.dict b (Bc l k v))) {s with heap:=h',toks:=tk}→Ext [] ρ s.heap ρ h'→Q y {s with heap:=h',toks:=tk}):wpAny g.m A (dictSetDefault d u y) Q E s:=by
 refine an2 (put_heap S.1 hd D hk.y x xv) fun p1 p2=>?_
 unfold dictSetDefault
 try with_reducible refine D4 ?_
 refine A1 (Dc 8 k hk.y (un hu rfl) x (A1 (Dh (s:={s with toks:=s.toks+Cl k}) (un hu rfl) hk.y x D.o rfl D.e (hk.at D.k) D.nd ?_)))
 cases e:at' l k with
 | none=>exact A1 (Q6 (A1 (y9 (s:={s with toks:=s.toks+Cl k}) D.o rfl (A5 (hnone _ _ (FS e) ⟨(p1 e).1,S.2⟩ (p1 e).2)) (by refine wg M0 (wh D.z ?_);have:=hk.z;solve_by_elim (maxDepth:=5) [A3,G3,B7,C0,D5,A9,C2,E6,I7,B1,B2,G7]))))
 | some j=>
  refine ex1 (at_get e) fun p hp=>?_
  refine xa14 (D.e.get hp) fun en h3 zz zz h4=>?_
  refine A1 (Y7 (s:={s with toks:=s.toks+Cl k}) D.o rfl ?_)
  refine wh D7 (wg h3 ?_)
  exact A1 (Q6 (A5 (hsome _ _ _ (FT e hp) h4)))
theorem takeOut_V (S:RS g ρ hp s) {Q:Option DictEntry→Shared→Prop} (hu:A.units+80<cLine) (hd:ρ.l[i]?=some d) (D:IsD g.w s.heap ρ b l d es n) (hk:Br l k) (x:RV s.heap ρ k u) (hv:BR l k=some v)
  (h:∀h' tk (e:DictEntry),RS g ρ (hp.put i (.dict false (El l k))) {s with heap:=h',toks:=tk}→Ext [] ρ s.heap ρ h'→RV h' ρ v e.val→Q (some e) {s with heap:=h',toks:=tk}):
  wpAny g.m A (Builtin.Dict.takeOut d u) Q E s:=by
 unfold Builtin.Dict.takeOut
 try with_reducible refine D4 ?_
 refine A1 (Dc 8 k hk.y (un hu rfl) x (A1 (Dh (s:={s with toks:=s.toks+Cl k}) (un hu rfl) hk.y x D.o rfl D.e (hk.at D.k) D.nd ?_)))
 cases e:at' l k with
 | none=>rw[FS e] at hv;cases hv
 | some j=>
  refine ex1 (at_get e) fun p hj=>?_
  rw[FT e hj] at hv;cases hv
  refine xa14 (D.e.get hj) fun en h3 zz zz h4=>?_
  have hjs:j<es.size:=by refine wh D.z ?_;exact (B6.mp hj).1
  have e2:es.eraseIdxIfInBounds j=es.eraseIdx j hjs:=dif_pos hjs
  have q:=S.1.putAt (po:= .dict false (El l k)) hd (C9 s.heap d (Obj.mapDictKeys (·.eraseIdxIfInBounds j))) fun K=>by
   unfold El;refine wg e ?_
   exact ⟨_,_,F4 _ D.o rfl,by show BQ _ _ _ (l.eraseIdx j) (es.eraseIdxIfInBounds j).toList;refine wg e2 (wg Array.toList_eraseIdx ?_);exact (D.e.keep K).erase j,fun p m=>D.k p (List.mem_of_mem_eraseIdx m),D.nd.sublist ((List.eraseIdx_sublist ..).map _),fun q=>nomatch q⟩
  refine A1 (Y7 (s:={s with toks:=s.toks+Cl k}) D.o rfl ?_)
  refine wh D7 (wg h3 ?_)
  refine A1 (y9 (s:={s with toks:=s.toks+Cl k}) D.o rfl (A5 (h _ _ en ⟨q.1,S.2⟩ q.2 (h4.keep q.2.k0))) (by refine wg M0 (wh D.z ?_);have:=hk.z;solve_by_elim (maxDepth:=5) [A3,G3,B7,C0,D5,A9,C2,E6,I7,B1,B2,G7]) ?_)
  refine wg e2 (wg (Array.size_eraseIdx ..) ?_);exact E7 (AW _ _)
theorem Es (g:Gl) (S:RH g ρ hp s.heap) (hd:ρ.l[i]?=some d):(d==sysModules)=false:=
 beq_false_of_ne fun q=>G4.mpr (S.nt d (B9 hd)).1 (q▸modules_low g.T.nolimit)
theorem Ea {m:Nat} (hA:Rm A m) {Q:Bool→Shared→Prop} (S:RS g ρ hp s) (hd:ρ.l[i]?=some d) (D:IsD g.w s.heap ρ b l d es n) (hk:Br l k) (r:RV s.heap ρ k u)
  (h:∀tk,Q (at' l k).isSome {s with toks:=tk}):wpAny g.m A (contains (.ref d) u) Q E s:=by
 have hu:=hA.un
 have hT:s.TypeIs (.ref d) "dict":=⟨_,D.o,rfl⟩
 unfold contains
 try with_reducible refine D4 ?_
 refine A1 (V2 hT slot_dict_contains.lookup ?_)
 refine wg (if_neg (by rw[beq_builtin_none];exact D3)) ?_
 refine A1 (wpAny_callSpecialUnlessNone?_slot (name:=C7 "__contains__") hT slot_dict_contains
  (H9 slot_dict_contains hT entry_dict_contains ?_ (args_dict_contains _ _)))
 show wpAny _ _ (dictGet d u >>=_) _ _ s
 refine A1 (HG (un1 hu rfl) D hk r (fun v u' tk zz e zz=>?_) fun tk zz e=>?_)
 ·exact A5 (show ∃v,_∧_ from ⟨_,rfl,P9 (e▸h tk)⟩)
 ·exact A1 (wpAny_pendingKey_other (Es g S.1 hd) (A5 ⟨_,rfl,P9 (e▸h tk)⟩))
theorem o_ind {m:Nat} (hA:Rm A m):NO2 g A (compareOp .In) (indA false):=by
 intro s ρ hp a b u v K S x y q Q E k
 exact dE (C:=fun v=>wpAny _ _ (compareOp _ _ v) _ _ _) S.1 q y fun i b d a es n ei zz D q=>A1 (m:=contains (.ref a) u) (Ea hA S ei D q.1 x fun tk=>A5 (k.tk S (v:= .bool (at' d _).isSome) (by have:=q.2;rwa [W7] at this) rfl))
theorem o_notInd {m:Nat} (hA:Rm A m):NO2 g A (compareOp .NotIn) (indA true):=by
 intro s ρ hp a b u v K S x y q Q E k
 exact dE (C:=fun v=>wpAny _ _ (compareOp _ _ v) _ _ _) S.1 q y fun i b d a es n ei zz D q=>A1 (m:=contains (.ref a) u) (Ea hA S ei D q.1 x fun tk=>A5 (k.tk S (v:= .bool !(at' d _).isSome) (by have:=q.2;rwa [i9] at this) rfl))
end
noncomputable def NF (g:Gl) (A:Around) (f:Value) (op:Fn):Prop:=∀{s ρ hp vs us K},RS g ρ hp s→RVs s.heap ρ vs us→op vs hp K→∀{Q E},Fin g ρ s.heap K Q→wpAny g.m A (call f us) Q E s
section
variable {h:Heap} {ρ:Rho} {vs:List V} {us:List Value}
theorem e1 {k:V→Prop} {C:List Value→Prop} (q:a1 vs k) (r:RVs h ρ vs us) (c:∀v u,RV h ρ v u→k v→C [u]):C us:=by
 cases vs with
 | nil=>exact q.elim
 | cons v vs=>cases vs with
  | nil=>refine CE r fun u zz hh2 a hh4=>?_;clear r;obtain rfl:=hh2;obtain rfl:=hh4;exact c v u a q
  | cons _ _=>exact q.elim
theorem e2 {k:V→V→Prop} {C:List Value→Prop} (q:a2 vs k) (r:RVs h ρ vs us) (c:∀v v' u u',RV h ρ v u→RV h ρ v' u'→k v v'→C [u,u']):C us:=by
 cases vs with
 | nil=>exact q.elim
 | cons v vs=>obtain ⟨u,us,rfl,a,r⟩:=r;exact e1 (C:=fun us=>C (u::us)) q r fun v' u' a' q=>c v v' u u' a a' q
theorem e3 {k:V→V→V→Prop} {C:List Value→Prop} (q:a3 vs k) (r:RVs h ρ vs us) (c:∀v v' v'' u u' u'',RV h ρ v u→RV h ρ v' u'→RV h ρ v'' u''→k v v' v''→C [u,u',u'']):C us:=by
 cases vs with
 | nil=>exact q.elim
 | cons v vs=>obtain ⟨u,us,rfl,a,r⟩:=r;exact e2 (C:=fun us=>C (u::us)) q r fun v' v'' u' u'' a' a'' q=>c v v' v'' u u' u'' a a' a'' q
end
section
variable {g:Gl} {A:Around} {E:Value→Shared→Prop} {s:Shared} {ρ:Rho} {hp:Hp}
theorem RH.putList (S:RH g ρ hp s.heap) {i:Nat} {a:Addr} {us:Array Value} {n:Nat} {f:Array Value→Array Value} {l l':List V} (ha:ρ.l[i]?=some a) (L:IsL s.heap ρ l a us n) (r:RVs s.heap ρ l' (f us).toList):
  RH g ρ (hp.put i (.list l')) (s.heap.update a (G8 f))∧Ext [] ρ s.heap ρ (s.heap.update a (G8 f)):=by
 obtain ⟨n',hn⟩:∃n',G8 f (BL us n)=BL (f us) n':=⟨_,rfl⟩
 exact S.putAt ha (C9 ..) fun K=>⟨f us,n',by refine wh hn ?_;exact F4 _ L.o (by refine wg hn ?_;rfl),r.keep K⟩
theorem b_append:NF g A (.builtin "list.append") BZ:=by
 intro s ρ hp vs us K S r q Q E k
 refine e2 (C:=fun us=>wpAny _ _ (call _ us) _ _ _) q r fun v x u u' r1 r2 q=>lE (C:=fun u=>wpAny _ _ (call _ [u,u']) _ _ _) S.1 q r1 fun i l a us n ei zz L q=>?_
 refine an2 (S.1.putList (f:=(·.push u')) (l':=l++[x]) ei L (by refine wg (Fp ..) ?_;exact L.r.app (.cons r2 .nil))) fun S' X=>?_
 refine H9 slot_list_append ⟨_,L.o,rfl⟩ entry_list_append ?_ (args_list_append _ _)
 show wpAny _ _ (updateSeq a (·.push u') >>=fun zz=>ret .none) _ _ s
 have hsz:us.size≤sizeLine:=by refine wh L.z ?_;exact fit q.1
 exact A1 (V5 L.o rfl (A5 ⟨.none,rfl,k q.2 ⟨S',S.2⟩ X rfl⟩))
theorem b_space:NF g A (.builtin "str.isspace") Hh:=fun S r q Q E k=>e1 (C:=fun us=>wpAny _ _ (call _ us) _ _ _) q r fun v u r1 q=>
 sE (C:=fun u=>wpAny _ _ (call _ [u]) _ _ _) q r1 fun x t q=>call_gives F.slot_str_isspace (j8 _ _ _) F.entry_str_isspace (F.args_str_isspace_1 _) (gives_str_isspace _ t) (k.at S q rfl)
theorem b_extend:NF g A (.builtin "list.extend") CZ:=by
 intro s ρ hp vs us K S r q Q E k
 refine e2 (C:=fun us=>wpAny _ _ (call _ us) _ _ _) q r fun v x u u' r1 r2 q=>lE (C:=fun u=>wpAny _ _ (call _ [u,u']) _ _ _) S.1 q r1 fun i l a us n ei zz L q=>aE (C:=fun u'=>wpAny _ _ (call _ [_,u']) _ _ _) S.1 q r2 fun r b us' n' q L'=>?_
 have z1:=L.z;have z2:=L'.z;have z:=q.1
 refine an2 (S.1.putList (f:=fun x=>x++us') (l':=l++r) ei L (by refine wg AH ?_;exact L.r.app L'.r)) fun S' X=>?_
 refine call_meets b8 ⟨_,L.o,rfl⟩ F.entry_list_extend (F.args_list_extend_2 _ _) (AutoSeq1.list_extend_list_list_0 a us n b us' n' ?_ (fit (by (refine wh z1 ?_;exact up (A3 (C0 _ _) q.1) rfl))) (E7 (fit (by (refine wh z1 (wh z2 ?_);exact q.1))))) ⟨L.o,L'.o,k q.2 ⟨S',S.2⟩ X rfl⟩
 unfold Builtin.List.listTooLong
 have:us.size+us'.size≤sizeLine:=fit (by (refine wh z1 (wh z2 ?_);exact q.1))
 simp only[T5,decide_eq_true_eq,not_and]
 intro _;exact G4.mpr this
theorem b_pop:NF g A (.builtin "list.pop") opPop:=by
 intro s ρ hp vs us K S r q Q E k
 refine e1 (C:=fun us=>wpAny _ _ (call _ us) _ _ _) q r fun v u r1 q=>lE (C:=fun u=>wpAny _ _ (call _ [u]) _ _ _) S.1 q r1 fun i l a us n ei zz L q=>?_
 obtain ⟨z,q⟩:=q
 cases hl:l.getLast? with
 | none=>rw[hl] at q;exact q.elim
 | some x=>
  rw[hl] at q
  rw[List.getLast?_eq_getElem?] at hl
  refine BD (L.r.get hl) fun y w1 w2=>?_
  have z1:=L.z
  have hpos:us.size - 1<us.size:=by have:=(B6.mp hl).1;(refine wh z1 ?_;exact this)
  have e:(us.eraseIdxIfInBounds (us.size - 1)).toList=us.toList.take (l.length - 1):=by
   rewrite[Array.eraseIdxIfInBounds];exact wg (dif_pos hpos) (wg Array.toList_eraseIdx (wh z1 (wg (List.eraseIdx_eq_take_drop_succ ..) (wg (n6 (by rw[C3,z1];exact B3 (Q5 (Y8 hpos)).symm)) (wg (D8 ..) rfl)))))
  refine an2 (S.1.putList (f:=fun xs=>xs.eraseIdxIfInBounds (us.size - 1)) (l':=l.dropLast) ei L (by refine wg e (wg List.dropLast_eq_take ?_);exact L.r.take _)) fun S' X=>?_
  exact call_meets F.slot_list_pop ⟨_,L.o,rfl⟩ F.entry_list_pop (F.args_list_pop_1 _) (MeetsSeq.list_pop_last a us n y (by refine wh D7 (wh z1 ?_);exact w1) (fit (by (refine wh z1 ?_;exact up z rfl)))) ⟨L.o,k q ⟨S',S.2⟩ X (w2.keep X.k0)⟩
theorem b_setdef {n:Nat} (hA:Rm A n):NF g A (.builtin "dict.setdefault") Bt:=by
 intro s ρ hp vs us K S r q Q E k
 have hu:=hA.un
 refine e3 (C:=fun us=>wpAny _ _ (call _ us) _ _ _) q r fun v x y u u' u'' r1 r2 r3 q=>dE (C:=fun u=>wpAny _ _ (call _ [u,u',u'']) _ _ _) S.1 q r1 fun i b d a es n ei zz D q=>?_
 obtain ⟨ok,q⟩:=q
 have hT:s.TypeIs (.ref a) "dict":=⟨_,D.o,rfl⟩
 refine H9 F.slot_dict_setdefault hT F.entry_dict_setdefault ?_ (F.args_dict_setdefault_3 _ _ _)
 refine A1 ?_
 refine A1 (f6 hT ?_)
 refine A5 ?_
 show wpAny _ _ (if (a==sysModules)=true then _ else (dictSetDefault a u' u'' >>=_)) _ _ s
 refine wg (if_neg (by rw[Es g S.1 ei];exact D3)) ?_
 refine A1 (FU S (un1 hu rfl) ei D ok r2 r3 (fun v' w' tk hv rv=>?_) fun h' tk hn S' X=>?_)
 ·rw[hv] at q;unfold oV at q
  exact A5 ⟨_,rfl,k.tk S q rv⟩
 ·rw[hn] at q;unfold oV at q
  exact A5 ⟨_,rfl,k q S' X (r3.keep X.k0)⟩
theorem b_dpop {n:Nat} (hA:Rm A n):NF g A (.builtin "dict.pop") opDPop:=by
 intro s ρ hp vs us K S r q Q E k
 have hu:=hA.un
 refine e2 (C:=fun us=>wpAny _ _ (call _ us) _ _ _) q r fun v x u u' r1 r2 q=>dE (C:=fun u=>wpAny _ _ (call _ [u,u']) _ _ _) S.1 q r1 fun i b d a es n ei zz D q=>?_
 obtain ⟨ok,q⟩:=q
 refine iE (C:=fun u'=>RV s.heap ρ x u'→wpAny _ _ (call _ [_,u']) _ _ _) q r2 (fun j t q r2=>?_) r2
 cases hv:BR d x with
 | none=>rw[hv] at q;exact q.elim
 | some v=>
  rw[hv] at q
  have hT:s.TypeIs (.ref a) "dict":=⟨_,D.o,rfl⟩
  refine H9 F.slot_dict_pop hT F.entry_dict_pop ?_ (F.args_dict_pop_2 _ _)
  refine A1 ?_
  refine A1 (f6 hT ?_)
  refine A5 ?_
  have hpart:(keyPart (Av j t)).isSome=true:=rfl
  refine A1 (A5 ?_)
  refine A1 (takeOut_V S (un1 hu rfl) ei D ok r2 hv fun h' tk en S' X rv=>?_)
  exact A1 (Ak (A5 ⟨_,rfl,k q S' X rv⟩))
theorem BS {h:Heap} {a:Addr} {us:Array Value} (e:h.get? a=some (CY us)):h.IsTuple a us:=⟨_,e,rfl,0,rfl⟩
theorem Bm {h:Heap} {a:Addr} {us:Array Value} {n:Nat} (e:h.get? a=some (BL us n)):h.IsList a us:=⟨_,e,rfl,n,rfl⟩
theorem b_len:NF g A (.builtin "len") Bh:=by
 intro s ρ hp vs us K S r q Q E k
 refine e1 (C:=fun us=>wpAny _ _ (call _ us) _ _ _) q r fun v u r1 q=>?_
 have lst:∀{l a us n},IsL s.heap ρ l a us n→l.length≤4096∧K (.int l.length) hp→wpAny g.m A (call (.builtin "len") [.ref a]) Q E s:=fun L q=>
  Calls.call_len_list (Bm L.o) (i63 (L.z▸q.1)) (by refine wh L.z ?_;exact k.tk S q.2 ⟨_,rfl⟩)
 cases v with
 | tup l=>exact tR (C:=fun u=>wpAny _ _ (call _ [u]) _ _ _) r1 fun a us T=>PySem.P.len_tuple T.o (i63' (T.z▸q.1)) (by refine wh T.z ?_;exact k.tk S q.2 ⟨_,rfl⟩)
 | lst l=>exact aE (C:=fun u=>wpAny _ _ (call _ [u]) _ _ _) (k:=fun l=>l.length≤4096∧K (.int l.length) hp) (hp:=hp) (v:= .lst l) S.1 (show l.length≤4096∧K (.int l.length) hp from q) r1 fun l a us n q L=>lst L q
 | loc i=>
  refine BD r1 fun a hh1 ei=>?_;clear r1;obtain rfl:=hh1
  replace q:pZ (hp.f i) fun n=>n≤4096∧K (.int n) hp:=q
  cases e:hp.f i with
  | none=>rw[e] at q;unfold pZ at q;exact q.elim
  | some o=>
   rw[e] at q
   unfold pZ at q
   cases o with
   | list l=>exact lR S.1 ei (k:=fun l=>l.length≤4096∧K (.int l.length) hp) (by refine wg e ?_;unfold pL;exact q) fun l us n zz L q=>lst L q
   | dict b d=>
     refine dR S.1 ei e fun es n D=>?_
     have hT:s.TypeIs (.ref a) "dict":=⟨_,D.o,rfl⟩
     have hz:=D.z;have hz':=q.1
     refine Calls.call_function_entry kind_len plain_len entry_len (args_len1 _) ?_
     refine A1 (m:=oneArg "len" _) (A5 ?_)
     refine A1 (m:=callSpecial? (.ref a) (C7 "__len__")) (K8 (name:=C7 "__len__") hT F.slot_dict_len
      (H9 F.slot_dict_len hT F.entry_dict_len ?_ (F.args_dict_len_1 _)))
     show wpAny _ _ (dictSize a >>=_) _ _ s
     refine A1 (A1 (Y7 D.o rfl (A5 ?_)))
     show wpAny _ _ (Builtin.Dict.pendingCount a >>=_) _ _ s
     refine A1 (wpAny_pendingCount_other (Es g S.1 ei) (wpAny_ret_mkInt ?_))
     refine wg (Nat.add_zero ..) ?_
     show wpAny _ _ _ _ _ {s with toks:=s.toks+1}
     refine A1 (D4 (A5 (A1 (Ak ?_))))
     show wpAny _ _ (if ((es.size:Nat):Int)<0 then _ else _) _ _ _
     refine wg (if_neg (j9.mpr (C6 _))) ?_
     show wpAny _ _ (if ((es.size:Nat):Int)≥2^63 then _ else _) _ _ _
     refine wg (if_neg (by (rw[←hz];exact i63' hz'))) ?_
     refine wpAny_ret_mkInt ?_
     refine wh hz ?_
     exact k.tk S q.2 ⟨_,rfl⟩
   | _=>exact q.elim
 | _=>exact q.elim
theorem b_int:NF g A (.type "int") opInt:=fun S r q Q E k=>e1 (C:=fun us=>wpAny _ _ (call _ us) _ _ _) q r fun v u r1 q=>iE (C:=fun u=>wpAny _ _ (call _ [u]) _ _ _) q r1 fun i t q=>call_int_int (k.at S q ⟨_,rfl⟩)
theorem b_str:NF g A (.type "str") opStr:=by
 intro s ρ hp vs us K S r q Q E k
 refine e1 (C:=fun us=>wpAny _ _ (call _ us) _ _ _) q r fun v u r1 q=>iE (C:=fun u=>wpAny _ _ (call _ [u]) _ _ _) q r1 fun n t q=>PySem.P.str_of_int ?_ (k.tk S q.2 ⟨_,rfl⟩)
 have h1:n.natAbs<2^20:=by have:=q.1;exact nab q.1
 by_cases h0:n.natAbs=0
 ·refine wg h0 ?_;decide
 ·exact (Nat.log2_lt h0).mpr (A9 h1 (Nat.pow_le_pow_right (by decide) (by decide)))
theorem b_isint (S:RS g ρ hp s) {vs:List V} {us:List Value} {K:KV} {Q:Value→Shared→Prop} (r:RVs s.heap ρ vs us) (q:En vs hp K) (k:Fin g ρ s.heap K Q):wpAny g.m A (call (.builtin "isinstance") (us++[.type "int"])) Q E s:=by
 refine e1 (C:=fun us=>wpAny _ _ (call _ (us++_)) _ _ _) q r fun v u r1 q=>?_
 cases v with
 | int i=>refine ex1 r1 fun t hh1=>?_;clear r1;obtain rfl:=hh1;exact IsiPair.int_int (k.at S q rfl)
 | str i=>refine ex1 r1 fun t hh1=>?_;clear r1;obtain rfl:=hh1;exact IsiPair.str_int (k.tk S q rfl)
 | _=>exact q.elim
theorem Hm (l:Addr) (items:Array Value) (n:Nat) (hsz:items.size≤sizeLine):
  Meets (m9.«tuple.__new__» ⟨[.type "tuple",.ref l],[]⟩)
   (fun zz R s=>s.heap.get? l=some (BL items n)∧∀h':Heap,(∀b o',s.heap.get? b=some o'→h'.get? b=some o')→s.heap.objs.size≤h'.objs.size→R (.ok (.ret (.ref h'.objs.size))) {s with heap:=h'.push (CY items)}):=
 .of_wp fun prog w A R s h=>by
  obtain ⟨hp,g,d,tk,os⟩:=s;obtain ⟨ht,h⟩:=h
  have hsub:=sub_tuple_self
  have hinit:=init_tuple_lookup
  have hmh:=madeHere_tuple
  have hT:Ar ⟨hp,g,d,tk,os⟩ (.ref l) "list":=⟨_,ht,rfl⟩
  have col:∀{Q:List Value→Shared→Prop} {A:Around} {E},(∀h',(∀b o',hp.get? b=some o'→h'.get? b=some o')→hp.objs.size≤h'.objs.size→Q items.toList ⟨h',g,d,tk,os⟩)→wpAny (model prog w) A (collect (.ref l)) Q E ⟨hp,g,d,tk,os⟩:=fun hQ=>
   wpAny_size (wpAny_collect_seq (hsz:=hsz) l (.inl rfl) ht rfl rfl fun h' hk sz=>hQ h' hk sz)
  wp_walk using J5 ht,i1 hT,col
  intro h' hk sz
  show wpAny _ _ (Z5 items.toList.toArray >>=fun v=>ret v) _ _ _
  exact A1 (J0 (A5 ⟨_,rfl,h h' hk sz⟩) (show items.toList.toArray.size≤sizeLine from hsz))
theorem b_tuple:NF g A (.type "tuple") CJ:=by
 intro s ρ hp vs us K S r q Q E k
 refine e1 (C:=fun us=>wpAny _ _ (call _ us) _ _ _) q r fun v u r1 q=>?_
 have lst:aL hp v (fun l=>l.length≤4096∧K (.tup l) hp)→wpAny g.m A (call (.type "tuple") [u]) Q E s:=fun q=>aE (C:=fun u=>wpAny _ _ (call _ [u]) _ _ _) S.1 q r1 fun l a us n q L=>
  callType_new F.called_tuple (by decide) (F.typeCall_tuple_1 _) (F.newCall_tuple_1 _) (fun obj=>z5 obj _) F.entry_tuple_new (Hm a us n (by refine wh L.z ?_;exact fit q.1)) ⟨L.o,fun h' hk hge=>⟨⟨_,B0 _ rfl,rfl⟩,by
   refine an2 (S.1.same hk hge) fun S1 X1=>?_
   refine an3 (S1.tup (L.r.keep X1.k0)) fun S' X r'=>?_
   exact k q.2 ⟨S',S.2⟩ (X1.trans X) r'⟩⟩
 cases v with
 | tup l=>exact tR (C:=fun u=>wpAny _ _ (call _ [u]) _ _ _) r1 fun a us T=>call_tuple_same (BS T.o) (k.at S q ⟨_,_,rfl,⟨T.o,T.x⟩,T.r⟩)
 | loc i=>exact lst q
 | lst l=>exact lst q
 | _=>exact q.elim
end
set_option genInjectivity false
structure Fd where
 env:Env
 names:List Str
 own:List Addr
noncomputable def SlotAt (fd:Fd) (ρ:Rho) (h:Heap) (m:Str→Option Value) (x:Str) (v:V):Prop:=
 (fd.env.kindOf x=some .local∧∃u,m x=some u∧RV h ρ v u)∨(fd.env.kindOf x=some .cell∧∃c u,fd.env.cells.lookup x=some c∧h.IsCell c (some u)∧RV h ρ v u)
structure RF (g:Gl) (fd:Fd) (ρ:Rho) (lc:Lc) (h:Heap):Prop where
 kind:fd.env.scope.kind= .function
 glob:fd.env.globals=mainGlobals
 blt:fd.env.builtins=builtinsNs
 ns:∃m,h.Ns fd.env.locals m∧∀i v,DM lc i=some v→∃x,fd.names[i]?=some x∧SlotAt fd ρ h m x v
 cells:∀x c,fd.env.cells.lookup x=some c→(∃v₀,h.IsCell c v₀)∧c≠fd.env.locals∧c∈ρ.p∧∀y,fd.env.cells.lookup y=some c→y=x
 loc:fd.env.locals∈fd.own
 own:∀a∈fd.own,a∈ρ.p
 nd:fd.names.Nodup
section
variable {g:Gl} {fd:Fd} {ρ ρ':Rho} {lc:Lc} {h h':Heap} {hp:Hp} {A:Around}
theorem Ns_at {L:Addr} {m} (hn:h.Ns L m) (hk:∀o,h.get? L=some o→h'.get? L=some o):h'.Ns L m:=by
 refine xa32 hn fun o es ep ho r=>?_;clear hn
 exact ⟨o,es,ep,hk o ho,r⟩
theorem GF {c:Addr} {v} (hc:h.IsCell c v) (hk:∀o,h.get? c=some o→h'.get? c=some o):h'.IsCell c v:=by
 refine BD hc fun o ho hd=>?_;clear hc
 exact ⟨o,hk o ho,hd⟩
theorem RF.mono0 (p:Addr→Prop) (F:RF g fd ρ lc h) (K:Bu h ρ h' ρ') (ho:∀a∈fd.own,p a) (hc:∀x c,fd.env.cells.lookup x=some c→p c) (hp:∀a,p a→a∈ρ'.p) (hk:∀a,p a→∀o,h.get? a=some o→h'.get? a=some o):RF g fd ρ' lc h':=by
 refine BD F.ns fun m hm hv=>?_
 refine ⟨F.kind,F.glob,F.blt,⟨m,Ns_at hm (hk _ (ho _ F.loc)),fun i v e=>?_⟩,fun x c e=>?_,F.loc,fun a m=>hp a (ho a m),F.nd⟩
 ·refine BD (hv i v e) fun x hx r=>?_
  exact ⟨x,hx,r.imp (fun w=>⟨w.1,w.2.imp fun zz w=>⟨w.1,w.2.keep K⟩⟩) fun w=>⟨w.1,w.2.imp fun c w=>w.imp fun zz w=>⟨w.1,GF w.2.1 (hk c (hc x c w.1)),w.2.2.keep K⟩⟩⟩
 ·refine an4 (F.cells x c e) fun hh0 h1 h2 h3=>?_;refine ex1 hh0 fun v hv=>?_;clear hh0
  exact ⟨⟨v,GF hv (hk c (hc x c e))⟩,h1,hp c (hc x c e),h3⟩
theorem RF.mono (F:RF g fd ρ lc h) (K:Bu h ρ h' ρ') (hp:∀a∈ρ.p,a∈ρ'.p) (hk:∀a∈ρ.p,∀o,h.get? a=some o→h'.get? a=some o):RF g fd ρ' lc h':=F.mono0 (·∈ρ.p) K F.own (fun x c e=>(F.cells x c e).2.2.1) hp hk
theorem RF.ext (S:RH g ρ hp h) (F:RF g fd ρ lc h) (X:Ext [] ρ h ρ' h'):RF g fd ρ' lc h':=F.mono X.k0 (fun a m=>X.p▸m) fun a m o e=>X.keep a o e (S.pt a m).1 fun m=>nomatch m
theorem Ext.kO (F:RF g fd ρ lc h) (X:Ext fd.own ρ h ρ' h'):Bu h ρ h' ρ':=X.k F.own
end
section
variable (g:Gl) (fd:Fd) (A:Around) (ρ:Rho) (h:Heap)
noncomputable def NV (e:Expr) (x:XE V):Prop:=∀{s ρ lc hp K},RS g ρ hp s→RF g fd ρ lc s.heap→x lc hp K→∀{Q E},Fin g ρ s.heap K Q→wpAny g.m A (eval e fd.env) Q E s
noncomputable def FinB (K:Bool→Hp→Prop) (Q:Bool→Shared→Prop):Prop:=∀{b hp ρ' s},K b hp→RS g ρ' hp s→Ext [] ρ h ρ' s.heap→Q b s
noncomputable def NB (e:Expr) (x:XE Bool):Prop:=∀{s ρ lc hp K},RS g ρ hp s→RF g fd ρ lc s.heap→x lc hp K→∀{Q E},FinB g ρ s.heap K Q→wpAny g.m A (isTrue e fd.env (eval e fd.env)) Q E s
noncomputable def FinS (n:Nat) (K:List V→Hp→Prop) (Q:List Value→Shared→Prop):Prop:=∀{vs hp us ρ' s},K vs hp→RS g ρ' hp s→Ext [] ρ h ρ' s.heap→RVs s.heap ρ' vs us→us.length=n→Q us s
noncomputable def NVs (es:List Expr) (ms:List (XE V)):Prop:=∀{pos s ρ lc hp K},RS g ρ hp s→RF g fd ρ lc s.heap→Bj ms lc hp K→∀{Q E},FinS g ρ s.heap ms.length K Q→wpAny g.m A (spliced (backTo pos (starEach es fd.env))) Q E s
noncomputable def Fz (K:List V→Hp→Prop) (Q:Value→Shared→Prop):Prop:=∀{l hp a us n ρ' s},K l hp→RS g ⟨ρ'.l,a::ρ'.p⟩ hp s→Ext [] ρ h ρ' s.heap→h.objs.size≤a→a∉ρ'.p→s.heap.get? a=some (BL us n)→RVs s.heap ⟨ρ'.l,a::ρ'.p⟩ l us.toList→Q (.ref a) s
noncomputable def NL (e:Expr) (x:XE (List V)):Prop:=∀{s ρ lc hp K},RS g ρ hp s→RF g fd ρ lc s.heap→x lc hp K→∀{Q E},Fz g ρ s.heap K Q→wpAny g.m A (eval e fd.env) Q E s
end
section
variable {g:Gl} {fd:Fd} {A:Around} {a b c:XE V} {x y:XE (List V)} {l r e t:Expr} {pos:Pos} {es:List Expr} {ms:List (XE V)}
theorem Ext.adopt {ρ ρ':Rho} {h h':Heap} {a:Addr} (X:Ext [] ρ h ρ' h') (n:h.objs.size≤a):Ext [] ρ h ⟨ρ'.l++[a],ρ'.p⟩ h':=by
 refine BD X.pre fun t e ht=>?_
 exact ⟨⟨t++[a],by exact wg e (wg (E5 ..) rfl),fun b m=>(C5.mp m).elim (ht b) fun m=>A8.mp m▸n⟩,X.p,X.size,X.keep⟩
theorem n_lst (h:NL g fd A e x):NV g fd A e (Bg x):=fun S F q zz zz k=>h S F q fun q S' X zz n o r=>by
 refine an2 (RH.show' S'.1) fun S2 K=>?_
 exact k q ⟨S2,S'.2⟩ X ⟨_,_,_,rfl,⟨o,(S'.1.pt _ (.head _)).1,n⟩,r.keep K⟩
theorem Fz.at {ρ:Rho} {s:Shared} {hp:Hp} {l:List V} {us:Array Value} {K:List V→Hp→Prop} {Q:Value→Shared→Prop} (k:Fz g ρ s.heap K Q) (S:RS g ρ hp s) (r:RVs s.heap ρ l us.toList) (q:K l hp):Q (.ref s.heap.objs.size) {s with heap:=s.heap.push (BL us 0)}:=by
 refine an3 (S.1.newP (a:=s.heap.objs.size) BC (Bd (o:=BL us 0)) (B2 _) Cy) fun S1 K1 n1=>?_
 exact k (ρ':=ρ) (s:={s with heap:=s.heap.push (BL us 0)}) q ⟨S1,S.2⟩ S.1.push.2 (B2 _) n1 (B0 _ rfl) (r.keep K1)
theorem lk_get:∀{lc:Lc} {i:Nat} {k:V→Prop},lk lc i k→∃v,DM lc i=some v∧k v:=by
 intro lc
 induction lc with
 | nil=>exact fun h=>h.elim
 | cons o r ih=>exact fun {i k} h=>match i,o,h with
  | 0,some v,h=>⟨v,rfl,h⟩
  | i+1,_,h=>ih (i:=i) h
theorem n_local {i:Nat} {x:Str} (hx:fd.names[i]?=some x) (hd:(x==("__debug__":Str))=false):NV g fd A (.Name x pos) (BB i):=by
 intro s ρ lc hp K S F q Q E k
 refine BD (lk_get q) fun v hv q=>?_
 refine BD F.ns fun m hn hm=>?_
 refine BD (hm i _ hv) fun x' hx' r=>?_
 rw[hx] at hx';cases hx'
 rcases r with ⟨hl,u,e1,e2⟩ | ⟨hl,c,u,e1,e2,e3⟩
 ·exact wpAny_Name (wpAny_loadName_local F.kind hl hn e1 (k.at S q e2)) hd
 ·exact wpAny_Name (wpAny_loadName_cell F.kind hl e1 e2 (k.at S q e3)) hd
theorem n_int {i:Int} {kd}:NV g fd A (.Constant (.int i) kd pos) (BH (.int i)):=fun S zz q zz zz k=>b9 (k.tk S q ⟨_,rfl⟩)
theorem n_str {i:Str} {kd}:NV g fd A (.Constant (.str i) kd pos) (BH (.str i)):=fun S zz q zz zz k zz zz zz=>k.tk S q ⟨_,rfl⟩
theorem n_bool {i:Bool} {kd}:NV g fd A (.Constant (.bool i) kd pos) (BH (.bool i)):=fun S zz q zz zz k zz zz zz=>k.at S q rfl
theorem n_none {kd}:NV g fd A (.Constant .none kd pos) (BH .none):=fun S zz q zz zz k zz zz zz=>k.at S q rfl
theorem n_two {whole:Expr} {t:Value→Value→Sem Value} {f:P2} (hw:∀{s Q E},wpAny g.m A (eval l fd.env) (fun a s₁=>wpAny g.m A (eval r fd.env) (fun b s₂=>wpAny g.m A (t a b) Q E s₂) E s₁) E s→wpAny g.m A (eval whole fd.env) Q E s)
  (hl:NV g fd A l a) (hr:NV g fd A r b) (hf:NO2 g A t f):NV g fd A whole (BJ f a b):=
 fun S F q zz zz k=>hw (hl S F q fun q S1 X1 r1=>hr S1 (F.ext S.1 X1) q fun q S2 X2 r2=>hf S2 (r1.keep X2.k0) r2 q (k.up (X1.trans X2)))
theorem n_bin {op} {f:P2} (hl:NV g fd A l a) (hr:NV g fd A r b) (hf:NO2 g A (binaryOp op) f):NV g fd A (.BinOp l op r pos) (BJ f a b):=n_two wpAny_BinOp hl hr hf
theorem n_cmp {op} {f:P2} (hl:NV g fd A l a) (hr:NV g fd A r b) (hf:NO2 g A (compareOp op) f) (hm:behindInMarks op r=false):NV g fd A (.Compare l [op] [r] pos) (BJ f a b):=n_two (fun h=>wpAny_Compare1 h hm) hl hr hf
theorem n_isn {n:Bool} {kd p} (hl:NV g fd A l a):NV g fd A (.Compare l [if n then .IsNot else .Is] [.Constant .none kd p] pos) (xun (Hf n) a):=
 fun S F q zz zz k=>wpAny_Compare1 (hl S F q fun q S1 X1 r1 zz zz zz=>o_isn S1 r1 q (k.up X1)) (by cases n <;> with_unfolding_all rfl)
theorem n_nil:NVs g fd A [] []:=fun S zz q zz zz k=>n7 (k q S .refl .nil rfl)
theorem n_cons (h1:NV g fd A e a) (h2:NVs g fd A es ms) (he:starEach (e::es) fd.env=(false,eval e fd.env)::starEach es fd.env):NVs g fd A (e::es) (a::ms):=
 fun S F q zz zz k=>i3 (h1 S F q fun q S1 X1 r1=>h2 S1 (F.ext S.1 X1) q fun q S2 X2 r2 z=>k q S2 (X1.trans X2) (.cons (r1.keep X2.k0) r2) (congrArg (·+1) z)) he
theorem n_tup {kd} (h:NVs g fd A es ms) (hl:ms.length≤4096):NV g fd A (.Tuple es kd pos) (BW ms):=
 fun S F q zz zz k=>Tuple_ (h (pos:=pos) S F q fun {_ _ us _ _} q S1 X1 r1 z=>J0 (Fin.tup (us:=us.toArray) (k.up X1) S1 (by refine wg AJ ?_;exact r1) q) (by show us.toArray.size≤sizeLine;refine wg H5 (wg z ?_);exact fit hl))
theorem Fz.up {ρ ρ1:Rho} {h h1:Heap} {K:List V→Hp→Prop} {Q:Value→Shared→Prop} (k:Fz g ρ h K Q) (X:Ext [] ρ h ρ1 h1):Fz g ρ1 h1 K Q:=fun q S2 X2 n2 p2 o2 r2=>k q S2 (X.trans X2) (A3 X.size n2) p2 o2 r2
theorem n_list (h:NVs g fd A es ms) (hl:ms.length≤4096):NL g fd A (.List es pos) (Bj ms):=
 fun S F q zz zz k=>List_ (h (pos:=pos) S F q fun {_ _ us _ _} q S1 X1 r1 z=>J0 (Fz.at (us:=us.toArray) (k.up X1) S1 (by refine wg AJ ?_;exact r1) q) (by show us.toArray.size≤sizeLine;refine wg H5 (wg z ?_);exact fit hl))
end
theorem bE' {h:Heap} {ρ:Rho} {v:V} {u:Value} {k:Bool→Prop} (q:vB v k) (x:RV h ρ v u):∃b,u= .bool b∧k b:=bE (C:=fun u=>∃b,u= .bool b∧k b) q x fun b q=>⟨b,rfl,q⟩
theorem sI {h:Heap} {ρ:Rho} {v:V} {u:Value} {k:Str→Prop} (q:vS v k) (x:RV h ρ v u):∃b t,u= .str b t∧k b:=sE (C:=fun u=>∃b t,u= .str b t∧k b) q x fun b t q=>⟨b,t,rfl,q⟩
theorem Dy {M:Model} {A:Around} {E:Value→Shared→Prop} {s:Shared} {vs ks:List Value} {Q:Unit→Shared→Prop} (h:Q () s):wpAny M A (release vs ks) Q E s:=fun Γ p zz=>by refine wg (Sem.wp_release ..) ?_;exact h
section
variable {g:Gl} {fd:Fd} {A:Around} {a b c:XE V} {x y:XE (List V)} {l r e t:Expr} {pos:Pos} {es:List Expr} {ms:List (XE V)}
theorem n_cell (h:NL g fd A e x):NV g fd A e (Bv x):=fun {s ρ lc hp K} S F q {_ _} k=>h S F q fun {l hp a us n ρ' s} q S' X m o' o r=>by
 refine an2 (S'.1.adopt (po:= .list l) (fun K=>⟨us,n,o,r.keep K⟩) o') fun S2 K=>?_
 exact k q ⟨S2,S'.2⟩ (X.adopt m) ⟨_,rfl,S'.1.at_⟩
theorem nb_cmp {op} {f:P2} (hl:NV g fd A l a) (hr:NV g fd A r b) (hf:NO2 g A (compareOp op) f) (hm:behindInMarks op r=false):NB g fd A (.Compare l [op] [r] pos) (xtb (BJ f a b)):=
 fun S F q zz zz k=>wpAny_isTrue_Compare1 (hl S F q fun q S1 X1 r1=>hr S1 (F.ext S.1 X1) q fun q S2 X2 r2=>hf S2 (r1.keep X2.k0) r2 q fun q S3 X3 r3=>bE (C:=fun u=>wpAny _ _ (truthy u) _ _ _) q r3 fun b q=>P9 (k q S3 ((X1.trans X2).trans X3))) hm
theorem nb_isn {n:Bool} {kd p} (hl:NV g fd A l a):NB g fd A (.Compare l [if n then .IsNot else .Is] [.Constant .none kd p] pos) (xtb (xun (Hf n) a)):=
 fun S F q zz zz k=>wpAny_isTrue_Compare1 (hl S F q fun q S1 X1 r1 zz zz zz=>o_isn S1 r1 q fun q S3 X3 r3=>bE (C:=fun u=>wpAny _ _ (truthy u) _ _ _) q r3 fun b q=>P9 (k q S3 (X1.trans X3))) (by cases n <;> with_unfolding_all rfl)
theorem nb_val (h:NV g fd A e a) (he:isTrue e fd.env (eval e fd.env)=(do let v ←eval e fd.env;standAt e.pos;holding [v] (truthy v))):NB g fd A e (xtb a):=by
 intro s ρ lc hp K S F q Q E k
 refine wg he ?_
 exact A1 (h S F q fun q S1 X1 r1=>A1 (O8 (D4 (bE (C:=fun u=>wpAny _ _ (truthy u) _ _ _) q r1 fun b q=>P9 (k q S1 X1)))))
variable {p q:XE Bool} {x y:Expr}
theorem nb_not (h:NB g fd A t p):NB g fd A (.UnaryOp .Not t pos) (xnot p):=fun S F q zz zz k=>wpAny_isTrue_Not (h S F q fun q S1 X1=>k q S1 X1)
theorem nb_or (h:NB g fd A x p) (h':NB g fd A y q):NB g fd A (.BoolOp .Or [x,y] pos) (xor p q):=
 fun S F q zz zz k=>wpAny_isTrue_BoolOp (wpAny_allTrue_Or_cons (h S F q fun {b _ _ _} q S1 X1=>match b,q with
  | true,q=>k (q.1 rfl) S1 X1
  | false,q=>wpAny_allTrue_Or_cons (h' S1 (F.ext S.1 X1) (q.2 rfl) fun {b _ _ _} q S2 X2=>match b,q with
   | true,q=>k q S2 (X1.trans X2)
   | false,q=>wpAny_allTrue_Or_nil (k q S2 (X1.trans X2)))))
theorem n_ite (hc:NB g fd A t p) (h:NV g fd A x a) (h':NV g fd A y b):NV g fd A (.IfExp t x y pos) (xite p a b):=
 fun S F q zz zz k=>wpAny_IfExp (hc S F q fun {b _ _ _} q S1 X1=>match b,q with
  | true,q=>h S1 (F.ext S.1 X1) (q.1 rfl) (k.up X1)
  | false,q=>h' S1 (F.ext S.1 X1) (q.2 rfl) (k.up X1))
theorem n_andV (h:NV g fd A x a) (h':NV g fd A y b):NV g fd A (.BoolOp .And [x,y] pos) (xandV a b):=by
 intro s ρ lc hp K S F q Q E k
 refine A1 (m:=eval x fd.env) (h S F q fun q S1 X1 r1=>?_)
 refine BD (bE' q r1) fun b hh1 q=>?_;obtain rfl:=hh1
 refine A1 (O8 (A1 (D4 (P9 ?_))))
 match b,q with
 | false,q=>exact A5 (k (q.2 rfl) S1 X1 rfl)
 | true,q=>
  exact h' S1 (F.ext S.1 X1) (q.1 rfl) (k.up X1)
theorem n_fmt (h:NV g fd A e a):NV g fd A (.FormattedValue e (-1) none pos) (xun fmtA a):=
 fun S F q Q E k=>FormattedValue_plain (h S F q fun q S1 X1 r1=>iE (C:=fun u=>wpAny _ _ (formatField u Z9) _ _ _) q r1 fun i t q=>formatField_int_small (by
  by_cases hz:i.natAbs=0
  ·refine wg hz ?_;decide
  ·exact A9 ((Nat.log2_lt (k:=20) hz).mpr (by have:=q.1;exact nab q.1)) (by decide)) (Fin.tk (k.up X1) S1 q.2 ⟨_,rfl⟩))
inductive NJ (g:Gl) (fd:Fd) (A:Around):List Expr→List (XE V)→Prop
 | nil:NJ g fd A [] []
 | cons {e es m ms} (h:NV g fd A e m) (t:NJ g fd A es ms):NJ g fd A (e::es) (m::ms)
theorem nj_parts (h:NJ g fd A es ms):∀{acc:Str} {s ρ lc hp K},acc.length≤4096→RS g ρ hp s→RF g fd ρ lc s.heap→GQ acc ms lc hp K→∀{Q E},Fin g ρ s.heap K Q→wpAny g.m A (joinParts acc (evalEach es fd.env)) Q E s:=by
 induction h with
 | nil=>exact fun ha S F q zz zz k=>joinParts_nil (k.tk S q ⟨_,rfl⟩) (fit ha)
 | cons h t ih=>exact fun ha S F q zz zz k=>joinParts_cons (h S F q fun q S1 X1 r1=>by
  refine CU (sI q r1) fun y t hh2 q=>?_;obtain rfl:=hh2
  exact ⟨fit q.1,ih q.1 S1 (F.ext S.1 X1) q.2 (k.up X1)⟩)
theorem n_fstr {e1 e2} (h:NJ g fd A (e1::e2::es) ms):NV g fd A (.JoinedStr (e1::e2::es) pos) (GQ Z9 ms):=fun S F q zz zz k=>JoinedStr_many (nj_parts h (by decide) S F q k)
end
section
variable {g:Gl} {fd:Fd} {A:Around} {a b c:XE V} {value slice e:Expr} {pos:Pos} {kd:Nat} {p p1 p2:Pos}
theorem o_item (hs:∀o i,subscripted slice false o i=operate [o,i] (getItem o i)):NO2 g A (subscriptTail value slice) BN:=by
 intro s ρ hp a b u v K S x y q Q E k
 refine iE (C:=fun v=>wpAny _ _ (subscriptTail _ _ u v) _ _ _) q y fun i t q=>?_
 have lst:aL hp a (fun l=>(l.length≤4096∧0≤i)∧so l[i.toNat]? fun v=>K v hp)→wpAny g.m A (subscriptTail value slice u (.int i t)) Q E s:=fun q=>aE (C:=fun u=>wpAny _ _ (subscriptTail _ _ u _) _ _ _) S.1 q x fun l a us n q L=>by
  obtain ⟨⟨z,h0⟩,q⟩:=q
  cases hc:l[i.toNat]? with
  | none=>rw[hc] at q;exact q.elim
  | some v=>
   rw[hc] at q
   refine BD (L.r.get hc) fun u' e1 e2=>?_
   have hi:=(B6.mp hc).1
   exact z6 (T:="list") (id:="list.__getitem__") ⟨_,L.o,rfl⟩ slot_list_getitem.lookup (wpAny_getItem_list ⟨_,L.o,rfl,_,rfl⟩ h0 (ix63 ‹_› ‹_› ‹_›) (by refine wh D7 ?_;exact e1) (k.at S q e2)) (hs _ _)
 cases a with
 | tup l=>
  refine tR (C:=fun u=>wpAny _ _ (subscriptTail _ _ u _) _ _ _) x fun a us T=>?_
  obtain ⟨⟨z,h0⟩,q⟩:=q
  cases hc:l[i.toNat]? with
  | none=>rw[hc] at q;exact q.elim
  | some v=>
   rw[hc] at q
   obtain ⟨u',e1,e2⟩:=T.r.get hc
   have hi:=(B6.mp hc).1
   have z':=T.z
   exact z6 (T:="tuple") (id:="tuple.__getitem__") ⟨_,T.o,rfl⟩ slot_tuple_getitem.lookup (P.getItem_tuple T.o (ixm h0) (ix63 ‹_› ‹_› ‹_›) (seqIndex_of h0 (z'▸ixn h0 hi)) (by refine wh D7 ?_;exact e1) (k.at S q e2)) (hs _ _)
 | str x0=>
  refine ex1 x fun t' hh1=>?_;clear x;obtain rfl:=hh1
  obtain ⟨⟨rfl,h0⟩,q⟩:=q
  obtain ⟨T,id,hl,hT,hg⟩:=SB.item (prog:=g.prog) (w:=g.w) (A:=A) (E:=E) (s:=s) (x:=x0) (t:=t') (u:=t) (i:=0) (Q:=Q) (by decide) (charAt_isSome (Int.neg_nonpos_of_nonneg (C6 _)) (K4.mpr h0)) (k.tk S q ⟨_,rfl⟩)
  exact z6 hT hl hg (hs _ _)
 | _=>exact lst q
theorem o_ditem {n:Nat} (hA:Rm A n) (hs:∀o i,subscripted slice false o i=operate [o,i] (getItem o i)):NO2 g A (subscriptTail value slice) CH:=by
 intro s ρ hp a b u v K S x y q Q E k
 have hu:=hA.un
 refine dE (C:=fun u=>wpAny _ _ (subscriptTail _ _ u _) _ _ _) S.1 q x fun i b d a es n ei zz D q=>?_
 obtain ⟨ok,q⟩:=q
 have hT:s.TypeIs (.ref a) "dict":=⟨_,D.o,rfl⟩
 refine z6 (T:="dict") (id:="dict.__getitem__") hT slot_dict_getitem.lookup ?_ (hs _ _)
 unfold getItem
 try with_reducible refine D4 ?_
 refine A1 (o0 hT (by decide) ?_)
 refine A1 (K8 (name:=C7 "__getitem__") hT slot_dict_getitem
  (H9 slot_dict_getitem hT entry_dict_getitem ?_ (args_dict_getitem _ _)))
 show wpAny _ _ (dictGet a v >>=_) _ _ s
 refine A1 (HG (un1 hu rfl) D ok y (fun v u' tk hv zz r=>?_) fun tk hv zz=>?_)
 ·rw[hv] at q
  exact A5 ⟨u',rfl,A5 (k.tk S q r)⟩
 ·rw[hv] at q;exact q.elim
theorem slc {ρ:Rho} {hp:Hp} {s:Shared} (S:RS g ρ hp s) {o:Obj} {t:Nat}:RS g ρ hp {s with heap:=s.heap.push o,toks:=t}∧Ext [] ρ s.heap ρ (s.heap.push o):=⟨⟨S.1.push.1,S.2⟩,S.1.push.2⟩
theorem isTup_of {h:Heap} {a:Addr} {us:Array Value} (e:h.get? a=some (CY us)):IsTup h a us:=⟨_,e,rfl,0,rfl⟩
theorem n_from (hl:NV g fd A value a):NV g fd A (.Subscript value (.Slice (some (.Constant (.int 1) kd p1)) none none p) pos) (xun CF a):=
 fun S F q zz zz k=>AX (hl S F q fun {_ _ _ _ s1} q S1 X1 r1=>wpAny_Slice (b9 (k:=kd) (pos:=p1) (A5 (A5 (by
  refine an2 (slc S1 (o:={cls:= .type "slice",data:= .fields #[.int 1 s1.toks,.none,.none]}) (t:=s1.toks+1)) fun S2 X2=>?_
  refine tE (C:=fun u=>wpAny _ _ (subscriptTail _ _ u _) _ _ _) q r1 fun l a us q T=>?_
  cases l with
  | nil=>exact q.elim
  | cons v l=>
   have z:=T.z
   have q1:=q.1
   rw[K9] at z
   refine z6 (T:="tuple") (id:="tuple.__getitem__") ⟨_,BC _ _ T.o,rfl⟩ slot_tuple_getitem.lookup ?_ rfl
   exact getItem_tuple_from (a:=1) (isTup_of (BC _ _ T.o)) (k6 ..) (B2 _) (z▸B1 (E2 _)) (Fin.tup (us:=(us.toList.drop 1).toArray) (k.up (X1.trans X2)) S2 (by refine wg AJ ?_;exact (T.r.keep X2.k0).drop 1) q.2) (by refine wg M0 ?_;omega))))))
variable {x y z:Expr}
theorem nb_chain {o1 o2} {f f':P2} (h1:NV g fd A x a) (h2:NV g fd A y b) (h3:NV g fd A z c) (hf:NO2 g A (compareOp o1) f) (hf':NO2 g A (compareOp o2) f')
  (hm:markedEach [o1,o2] [y,z] (evalEach [y,z] fd.env)=[eval y fd.env,eval z fd.env]):NB g fd A (.Compare x [o1,o2] [y,z] pos) (xchain f f' a b c):=by
 intro s ρ lc hp K S F q Q E k
 show wpAny _ _ (do testChain pos (←eval x fd.env) [o1,o2] (markedEach [o1,o2] [y,z] (evalEach [y,z] fd.env))) Q E s
 refine wg hm ?_
 refine A1 (h1 S F q fun q S1 X1 r1=>?_)
 refine A1 (m:=holding _ _) (D4 (h2 S1 (F.ext S.1 X1) q fun q S2 X2 r2=>A1 (O8 (A1 (D4 (hf S2 (r1.keep X2.k0) r2 q fun q S3 X3 r3=>A1 (Dy ?_)))))))
 refine BD (bE' q r3) fun t hh1 q=>?_;obtain rfl:=hh1
 refine A1 (D4 (P9 ?_))
 match t,q with
 | false,q=>exact A5 (k (q.2 rfl) S3 ((X1.trans X2).trans X3))
 | true,q=>
  refine wg (if_pos rfl) ?_
  refine A1 (m:=holding _ _) (D4 (h3 S3 (((F.ext S.1 X1).ext S1.1 X2).ext S2.1 X3) (q.1 rfl) fun q S4 X4 r4=>A1 (O8 (A1 (wpAny_operating (hf' S4 ((r2.keep X3.k0).keep X4.k0) r4 q fun q S5 X5 r5=>?_))))))
  refine BD (bE' q r5) fun t hh1 q=>?_;obtain rfl:=hh1
  exact D4 (P9 (k q S5 ((((X1.trans X2).trans X3).trans X4).trans X5)))
end
@[reducible] noncomputable def Dz (x:Str):Str:=⟨(x.cps.toList.take 1).toArray⟩
section
variable {g:Gl} {fd:Fd} {A:Around} {E:Value→Shared→Prop} {s:Shared} {a b c:XE V} {value slice e:Expr} {pos:Pos}
theorem FV {sl:Addr} {n:Nat} {u:Tok} {Q:Int×Int×Nat→Shared→Prop} (hs:s.heap.IsSliceOf sl .none (.int 1 u) .none) (hn:1≤n) (h:Q (0,1,1) s):
  wpAny g.m A (Builtin.Slice.sliceApplied (.ref sl) (pure (n:Int))) Q E s:=by
 refine Bo hs fun os hos hcs hds=>?_;clear hs
 refine A1 (A1 (V9 hos hds (x:= .none) rfl (A1 (V9 hos hds (x:= .int 1 u) rfl (A1 (V9 hos hds (x:= .none) rfl (A5 ?_)))))))
 refine A1 (slicePart_none ?_)
 refine wg (if_neg (by decide)) ?_
 refine A1 (slicePart_none (A1 (slicePart_int (A1 (A5 ?_)))))
 show wpAny _ _ (match Ai none (some (1:Int)) 1 (n:Int) with | (lo,hi)=>pure (lo,(1:Int),Aj lo hi 1)) _ _ s
 have e1:Ai none (some (1:Int)) 1 (n:Int)=(0,1):=by
  show ((0:Int),min (1:Int) (n:Int))=_
  exact wg (Int.min_eq_left (show (1:Int)≤n from T9.mpr hn)) rfl
 refine wg e1 ?_
 exact A5 (show Q (0,1,Aj 0 1 1) s from h)
theorem Et {t sl:Addr} {x:Value} {r:List Value} {u:Tok} {Q:Value→Shared→Prop} (ht:s.heap.get? t=some (CY (x::r).toArray)) (hs:s.heap.IsSliceOf sl .none (.int 1 u) .none)
  (h1:r=[]→Q (.ref t) s) (h:r≠[]→Q (.ref s.heap.objs.size) {s with heap:=s.heap.push (CY #[x])}):wpAny g.m A (getItem (.ref t) (.ref sl)) Q E s:=by
 refine Bo (id hs) fun os hos hcs hds=>?_
 have hTs:s.TypeIs (.ref sl) "slice":=⟨os,hos,hcs⟩
 have hT:s.TypeIs (.ref t) "tuple":=⟨_,ht,rfl⟩
 unfold getItem
 try with_reducible refine D4 ?_
 first | refine A1 (A5 ?_) | skip
 refine A1 (o0 hT (by decide) ?_)
 refine A1 (K8 (name:=C7 "__getitem__") hT slot_tuple_getitem
  (H9 slot_tuple_getitem hT entry_tuple_getitem ?_ (args_tuple_getitem _ _)))
 show wpAny _ _ (AV (.ref t) >>=_) _ _ s
 refine A1 (tupleItemsOf_ (isTup_of ht) ?_)
 refine A1 (i1 hTs ?_)
 refine wg (if_pos (by decide)) ?_
 refine A1 (FV (n:=(x::r).toArray.size) hs (A6 rfl) ?_)
 show wpAny _ _ (if ((0:Int)==0&&(1:Int)==1&&1==(x::r).toArray.size)=true then _ else _) _ _ s
 cases r with
 | nil=>
  refine wg (if_pos (by rfl)) ?_
  refine A1 (m:=Builtin.Tuple.tupleIsExact _) ?_
  refine A1 (i1 hT (A5 ?_))
  refine wg (if_pos (by decide)) ?_
  first
   | exact A1 (Q6 (A1 (A5 ⟨_,rfl,A5 (h1 rfl)⟩)))
   | exact A1 (Q6 (A5 ⟨_,rfl,A5 (h1 rfl)⟩))
   | exact A1 (Q6 (A1 (A5 (A5 ⟨_,rfl,A5 (h1 rfl)⟩))))
 | cons y r=>
  refine wg (if_neg (by simp)) ?_
  have hh:=h (by simp)
  have hdrop:sizeOk (.seq #[x]):=by show 1≤sizeLine;refine wg M0 ?_;decide
  first
   | exact A1 (m:=Z5 _) (J0 (A5 ⟨_,rfl,A5 hh⟩) hdrop)
   | exact A1 (m:=Z5 _) (J0 (A1 (A5 (A5 ⟨_,rfl,A5 hh⟩))) hdrop)
   | exact A1 (A1 (m:=Z5 _) (J0 (A5 (A5 ⟨_,rfl,A5 hh⟩)) hdrop))
theorem sliceMade1 (x:Str) (t u:Tok):sliceMade x t none (some (1,u)) none=if x.length≤1 then .val (.str x t) else .str (Dz x):=by
 have e0:slicePicked x none (some (1,u)) none=J9 (min 1 x.length):=by
  have:=sliceRange_one 0 (min 1 x.length)
  show sliceRange 0 (max (0:Int) (min 1 (x.length:Int))) 1=_
  refine wg (show max (0:Int) (min 1 (x.length:Int))=((min 1 x.length:Nat):Int) from (Nat.eq_zero_or_pos x.length).elim (fun h=>by rw[h];rfl) fun h=>by rw[Int.min_eq_left (show (1:Int)≤x.length from T9.mpr h),Nat.min_eq_left h];rfl) ?_
  exact this.trans (by simp)
 unfold sliceMade
 refine wg e0 ?_
 by_cases h:x.length≤1
 ·refine wg (if_pos h) ?_;rewrite[if_pos];rfl
  refine wg (Nat.min_eq_right h) ?_;simp
 ·have e:min 1 x.length=1:=Nat.min_eq_left (D9 (b7.mp h))
  refine wg (if_neg h) (wg (if_neg (by simp only[Option.map_none,Option.getD_none,P0,e];simp;exact E4 (b7.mp h))) (wg e ?_))
  obtain ⟨⟨l⟩⟩:=x
  cases l with
  | nil=>exact absurd (E2 _) h
  | cons a r=>rfl
theorem n_to1 {kd:Nat} {p1 p:Pos} (hl:NV g fd A value a):NV g fd A (.Subscript value (.Slice none (some (.Constant (.int 1) kd p1)) none p) pos) (xun to1A a):=by
 intro s ρ lc hp K S F q Q E k
 refine AX (hl S F q fun {v _ u ρ1 s1} q S1 X1 r1=>wpAny_Slice (A5 (b9 (k:=kd) (pos:=p1) (A5 ?_))))
 refine an2 (slc S1 (o:={cls:= .type "slice",data:= .fields #[.none,.int 1 s1.toks,.none]}) (t:=s1.toks+1)) fun S2 X2=>?_
 have k':Fin g ρ1 (s1.heap.push {cls:= .type "slice",data:= .fields #[.none,.int 1 s1.toks,.none]}) K Q:=k.up (X1.trans X2)
 cases v with
 | tup l=>
  refine CE r1 fun a hh1 hh2 hh3 r=>?_;clear r1;obtain ⟨us⟩:=hh1;obtain rfl:=hh2;refine an2 hh3 fun o n=>?_;clear hh3
  refine z6 (T:="tuple") (id:="tuple.__getitem__") ⟨_,BC _ _ o,rfl⟩ slot_tuple_getitem.lookup ?_ rfl
  cases l with
  | nil=>exact q.elim
  | cons v l=>
   refine CE r fun x xs hh2 rv rr=>?_;clear r;obtain rfl:=hh2
   refine Et (BC _ _ o) (k6 ..) (fun hz=>?_) fun zz=>Fin.tup k' S2 (.cons (rv.keep X2.k0) .nil) q.2
   subst hz
   exact Fin.at k' S2 q.2 ⟨a,_,rfl,⟨BC _ _ o,n⟩,.cons (rv.keep X2.k0) .nil⟩
 | str x0=>
  refine ex1 r1 fun t hh1=>?_;clear r1;obtain rfl:=hh1
  refine z6 (T:="str") (j8 _ x0 t) PySem.F.slot_str_getitem.lookup ?_ rfl
  refine wpAny_getItem_str_slice (l:=none) (u:=some (1,s1.toks)) (st:=none) ⟨_,B0 _ rfl,rfl,rfl⟩ rfl ?_
  refine wg (sliceMade1 ..) ?_
  split
  ·rename_i h
   have e:Dz x0=x0:=by
    obtain ⟨⟨l⟩⟩:=x0
    exact congrArg (fun l=>(⟨M1 l⟩:Str)) (Q9 h)
   exact Fin.at k' S2 q.2 ⟨t,congrArg (Value.str · t) e.symm⟩
  ·exact ⟨fit (A3 (show (Dz x0).length≤1 from by simp only[Dz,Str.length,H5];exact AK ..) (by decide)),Fin.tk k' S2 q.2 ⟨_,rfl⟩⟩
 | _=>exact q.elim
theorem Eb {ρ:Rho} {hp:Hp} {K:KV} {Q:Value→Shared→Prop} {o:Obj} {t:Nat} {w:Array Value} {l:List V} (S:RS g ρ hp s) (k:Fin g ρ s.heap K Q) (r:RVs s.heap ρ l w.toList) (q:K (.lst l) hp):
  Q (.ref (s.heap.push o).objs.size) {s with heap:=(s.heap.push o).push (BL w 0),toks:=t}:=by
 refine an2 (slc S (o:=o) (t:=t)) fun S2 X2=>?_
 exact Fin.lst (k.up X2) S2 (r.keep X2.k0) q
theorem n_rev2 {kd:Nat} {p1 p2 p:Pos} (hl:NV g fd A value a):NV g fd A (.Subscript value (.Slice none none (some (.UnaryOp .USub (.Constant (.int 1) kd p1) p2)) p) pos) (xun rev2A a):=by
 intro s ρ lc hp K S F q Q E k
 refine AX (hl S F q fun {v _ u ρ1 s1} q S1 X1 r1=>wpAny_Slice ?_)
 refine A5 ?_
 refine A5 ?_
 refine UnaryOp_ (b9 (k:=kd) (pos:=p1) (neg_int ?_))
 refine aE (C:=fun u=>wpAny _ _ (subscriptTail _ _ u _) _ _ _) S1.1 q r1 fun l a1 us n q L=>?_
 obtain ⟨us⟩:=us
 refine e2 (C:=fun us=>s1.heap.get? a1=some (BL us.toArray n)→wpAny _ _ (subscriptTail _ _ _ _) _ _ _) q L.r (fun x y ux uy rx ry q o=>?_) L.o
 refine z6 (T:="list") (id:="list.__getitem__") ⟨_,BC _ _ o,rfl⟩ slot_list_getitem.lookup ?_ rfl
 refine wpAny_getItem_list_slice (Bm (BC _ _ o)) (k6 ..) .none .none (.int (-1) _) (by decide) ?_ (by refine wg M0 ?_;show 2≤16777216;decide)
 refine wg (show slicePick #[ux,uy] none none (some (-1))=#[uy,ux] from by
  have h:sliceRange (sliceBounds none none (some (-1)) 2).1 (sliceBounds none none (some (-1)) 2).2.1 (sliceBounds none none (some (-1)) 2).2.2=[1,0]:=by decide+kernel
  show ((sliceRange (sliceBounds none none (some (-1)) 2).1 (sliceBounds none none (some (-1)) 2).2.1 (sliceBounds none none (some (-1)) 2).2.2).filterMap (#[ux,uy][·]?)).toArray=_
  rw[h];rfl) ?_
 exact Eb S1 (k.up X1) (.cons ry (.cons rx .nil)) q
theorem RVs.ints {h:Heap} {ρ:Rho}:∀{us:List Value} {ns:List Int},IntsAre us ns→RVs h ρ (ns.map .int) us:=by
 intro us ns x
 induction x with
 | nil=>exact .nil
 | cons n t r ih=>exact .cons ⟨t,rfl⟩ ih
theorem n_script {kd:Nat} {p1 p:Pos} {sc:Addr} {vs:List Value} {ns:List Int} (hs:g.h₀.IsList sc vs.toArray) (hi:IntsAre vs ns) (hz:vs.length≤4096) (hl:NV g fd A value a):
  NV g fd A (.Subscript value (.Slice none (some (.Constant (.int 20) kd p1)) none p) pos) (xun (scrA (.ref sc) ns) a):=by
 intro s ρ lc hp K S F q Q E k
 refine AX (hl S F q fun {v _ u ρ1 s1} q S1 X1 r1=>wpAny_Slice (A5 (b9 (k:=kd) (pos:=p1) (A5 ?_))))
 obtain ⟨rfl,q⟩:=q
 refine wg (show u= .ref sc from r1) ?_
 obtain ⟨o,ho,hc,n,hd⟩:=hs
 have ho:=S1.1.base _ _ ho
 refine z6 (T:="list") (id:="list.__getitem__") ⟨o,BC _ _ ho,hc⟩ slot_list_getitem.lookup ?_ rfl
 refine wpAny_getItem_list_slice ⟨o,BC _ _ ho,hc,n,hd⟩ (k6 ..) .none (.int 20 _) .none (by decide) ?_ (by refine wg H5 ?_;exact fit hz)
 exact Eb S1 (k.up X1) (RVs.ints (by simpa using slice_ints_uptoW hi (y:=20) (by decide))) q
variable {x y:Expr}
theorem n_cat (h1:NV g fd A x a) (h2:NV g fd A y b):NL g fd A (.BinOp x .Add y pos) (xcat a b):=
 fun S F q zz zz k=>wpAny_BinOp (h1 S F q fun q S1 X1 r1=>h2 S1 (F.ext S.1 X1) q fun q S2 X2 r2=>
  aE (C:=fun u=>wpAny _ _ (binaryOp _ u _) _ _ _) S2.1 q (r1.keep X2.k0) fun l a us n q L=>aE (C:=fun u=>wpAny _ _ (binaryOp _ _ u) _ _ _) S2.1 q r2 fun r b us' n' q L'=>
   P.add_list L.o L'.o (Fz.at (us:=us++us') (k.up (X1.trans X2)) S2 (by refine wg AH ?_;exact L.r.app L'.r) q.2) (by refine wh L.z (wh L'.z ?_);exact fit q.1))
end
noncomputable def NC (g:Gl) (f:Value) (n:Nat) (fn:Fn):Prop:=
 ∀{A s ρ hp args us K},Rm A n→RS g ρ hp s→RVs s.heap ρ args us→fn args hp K→∀{R:Result→Shared→Prop},Fin g ρ s.heap K (fun u s=>R (.ok (.ret u)) s)→codeAny g.m A (.call f ⟨us,[]⟩) R s
structure getOk (K:Frag) (C:Addr) (x:Str):Prop where
 a:plainGet K C x=true
 b:hasDictIn K C=true
 c:∃attr,findIn K (.ref C) x=some attr∧noGet K attr=true
structure methOk (K:Frag) (C:Addr) (x:Str) (f:Addr):Prop where
 get:plainGet K C x=true
 find:findIn K (.ref C) x=some (some (.ref f))
 fn:isFn K (.ref f)=true
 keep:keepIn K (.ref f)=true
section
variable {g:Gl} {fd:Fd} {A:Around} {E:Value→Shared→Prop} {s:Shared} {ρ:Rho} {hp:Hp} {n:Nat} {a:XE V} {e o:Expr} {p pos apos:Pos} {es:List Expr} {ms:List (XE V)} {f:Value} {fn op:Fn} {x:Str} {Q:Value→Shared→Prop}
theorem NC.call (h:NC g f n fn) {args us K} (hA:Rm A n) (S:RS g ρ hp s) (r:RVs s.heap ρ args us) (q:fn args hp K) (k:Fin g ρ s.heap K Q):wpAny g.m A (call f us) Q E s:=wpAny_call (h hA S r q k)
theorem EA {v:Value} {lc} (S:RS g ρ hp s) (F:RF g fd ρ lc s.heap) (hx:fd.env.kindOf x=some .globalImplicit) (hn:nsIn g.K mainGlobals x=some (some v)) (hd:(x==("__debug__":Str))=false) (h:Q v s):wpAny g.m A (eval (.Name x pos) fd.env) Q E s:=
 Calls.Name_function_global F.kind hx (Calls.loadGlobal_global (by refine wg F.glob ?_;exact g.T.g.keeps S.1.base) (mg_of g.KX g.T.g hn) h) hd
theorem Hn {v:Value} {lc} (S:RS g ρ hp s) (F:RF g fd ρ lc s.heap) (hx:fd.env.kindOf x=some .globalImplicit) (hn:nsIn g.K mainGlobals x=some none) (hv:bootBuiltins x=some v) (hnn:x≠"__name__") (hd:(x==("__debug__":Str))=false) (h:Q v s):
  wpAny g.m A (eval (.Name x pos) fd.env) Q E s:=
 Calls.Name_function_global F.kind hx (Calls.loadGlobal_builtin (by refine wg F.glob ?_;exact g.T.g.keeps S.1.base) (mg_none_of g.KX g.T.g hn) (by refine wg F.blt ?_;exact g.T.b.keeps S.1.base) ((g.T.builtins x hnn).trans hv) h) hd
theorem n_globint {i:Int} {t:Tok} (hx:fd.env.kindOf x=some .globalImplicit) (hn:nsIn g.K mainGlobals x=some (some (.int i t))) (hd:(x==("__debug__":Str))=false):NV g fd A (.Name x pos) (BH (.int i)):=fun S F q zz zz k=>EA S F hx hn hd (k.at S q ⟨_,rfl⟩)
structure NAr (g:Gl) (fd:Fd) (A:Around) (es:List Expr) (ms:List (XE V)):Prop where
 v:NVs g fd A es ms
 p:∀pos,(backTo pos (starEach es fd.env)).any (·.1)=false
theorem ar_nil:NAr g fd A [] []:=⟨n_nil,fun zz=>rfl⟩
theorem ar_cons (h:NV g fd A e a) (t:NAr g fd A es ms) (he:starEach (e::es) fd.env=(false,eval e fd.env)::starEach es fd.env):NAr g fd A (e::es) (a::ms):=
 ⟨n_cons h t.v he,fun pos=>by refine wg he ?_;exact t.p pos⟩
theorem CK {ts:List (Bool×Sem Value)} {Q:Args→Shared→Prop} (hp:ts.any (·.1)=false) (h:wpAny g.m A (spliced ts) (fun vs s'=>Q ⟨vs,[]⟩ s') E s):wpAny g.m A (evalArgs f true ts []) Q E s:=by
 match ts,hp,h with
 | [],_,h=>
  exact A1 (J8 h (fun vs s' h=>A1 (A5 (D4 (A1 (A5 (A1 (A5 (A5 h)))))))) fun zz zz x=>x)
 | (false,_)::_,_,h=>exact Calls.evalArgs_plain h
theorem DU {P:Heap→Prop} {K:List V→Hp→Prop} {first:List Value} {lc:Lc} (h:NAr g fd A es ms) (hk:∀h,P h→∃k,(k=Keeper.frame∨k=Keeper.machine∨k=Keeper.boundFrame)∧Looks g.m h (keeperOf f) k) (S:RS g ρ hp s) (F:RF g fd ρ lc s.heap) (q:Bj ms lc hp K)
  (c:∀{vs us hp' ρ' s'},K vs hp'→RS g ρ' hp' s'→Ext [] ρ s.heap ρ' s'.heap→RVs s'.heap ρ' vs us→P s'.heap∧wpAny g.m A (call f (first++us)) Q E s'):wpAny g.m A (callWith pos f first (backTo pos (starEach es fd.env)) []) Q E s:=
 z9 (by refine wg (h.p ..) ?_;rfl) hk (CK (h.p pos) (h.v S F q fun q S' X r zz=>c q S' X r))
theorem keepM (hf:keeperOf f=pure .machine):∀h:Heap,True→∃k,(k=Keeper.frame∨k=Keeper.machine∨k=Keeper.boundFrame)∧Looks g.m h (keeperOf f) k:=fun h zz=>⟨_,.inr (.inl rfl),Looks.of_pure hf⟩
noncomputable def CA (e:Expr) (es:List Expr) (pos:Pos) (env:Env):Prop:=eval (.Call e es [] pos) env=(do callWith pos (←eval e env) [] (backTo pos (starEach es env)) (backToKw pos (keywordEach [] env)))
noncomputable def EM (o:Expr) (x:Str) (apos:Pos) (es:List Expr) (pos:Pos) (env:Env):Prop:=∃pl,eval (.Call (.Attribute o x apos) es [] pos) env=(do
   let ov ←eval o env
   standAt apos.atName
   let (f,first) ←holding [ov] (getMethod ov x pl)
   callWith pos f first (backTo pos (starEach es env)) [])
theorem n_call (hA:Rm A n) (h:NAr g fd A es ms) (hc:NC g f n fn) (hx:fd.env.kindOf x=some .globalImplicit) (hn:nsIn g.K mainGlobals x=some (some f)) (hk:keepIn g.K f=true) (hd:(x==("__debug__":Str))=false)
  (he:CA (.Name x p) es pos fd.env):NV g fd A (.Call (.Name x p) es [] pos) (BK fn ms):=by
 intro s ρ lc hp K S F q Q E k
 refine wg he ?_
 exact A1 (EA S F hx hn hd (DU h (keeps_K hk) S F q fun q S1 X1 r1=>⟨g.KX.keeps S1.1.base,hc.call hA S1 r1 q (k.up X1)⟩))
structure BOk (g:Gl) (fd:Fd) (x:Str) (f:Value):Prop where
 hx:fd.env.kindOf x=some .globalImplicit
 hn:nsIn g.K mainGlobals x=some none
 hv:bootBuiltins x=some f
 hf:keeperOf f=pure .machine
 hnn:x≠"__name__"
 hd:(x==("__debug__":Str))=false
theorem BOk.name {lc:Lc} (B:BOk g fd x f) (S:RS g ρ hp s) (F:RF g fd ρ lc s.heap) (h:Q f s):wpAny g.m A (eval (.Name x p) fd.env) Q E s:=Hn S F B.hx B.hn B.hv B.hnn B.hd h
theorem n_bcall (h:NAr g fd A es ms) (hop:NF g A f op) (B:BOk g fd x f) (he:CA (.Name x p) es pos fd.env):NV g fd A (.Call (.Name x p) es [] pos) (BK op ms):=by
 intro s ρ lc hp K S F q Q E k
 refine wg he ?_
 exact A1 (B.name S F (DU h (keepM B.hf) S F q fun q S1 X1 r1=>⟨trivial,hop S1 r1 q (k.up X1)⟩))
theorem frOf {lc} (S:RS g ρ hp s) (F:RF g fd ρ lc s.heap):∃m,Fr g.h₀ fd.env.locals s.heap m:=by
 refine BD F.ns fun m hm zz=>?_
 exact ⟨m,hm,S.1.base,(S.1.pt _ (F.own _ F.loc)).2.1⟩
theorem CQ.norefs {h:Heap}:∀{l:List V} {xs:List Str} {es:List DictEntry},CQ h ρ xs l es→es.any (·.refKey)=false:=by
 intro l
 induction l with
 | nil=>intro xs es n;refine wg (show es=[] from n) ?_;rfl
 | cons v r ih=>
  rintro xs es ⟨x,xs',e,t,es',rfl,rfl,hk,_,n⟩
  refine wg List.any_cons (wg (ih n) (wg (Bool.or_false ..) ?_));simp[Aw,hk]
theorem CQ.none {h:Heap}:∀{l:List V} {xs:List Str} {es:List DictEntry},CQ h ρ xs l es→x∉xs→PySem.W.getL x es=some .none:=by
 intro l xs es n hx
 have hf:es.find? (·.key.isStr x)= .none:=by
  have:∀{l:List V} {xs:List Str} {es:List DictEntry},CQ h ρ xs l es→x∉xs→es.find? (·.key.isStr x)= .none:=by
   intro l
   induction l with
   | nil=>intro xs es n _;refine wg (show es=[] from n) ?_;rfl
   | cons v r ih=>
    rintro xs es ⟨y,xs',e,t,es',rfl,rfl,hk,_,n⟩ hx
    rw[C4,not_or] at hx
    refine wg j4 (wg hk (wg (show (Value.str y t).isStr x=false by simp[Value.isStr];exact fun q=>hx.1 q.symm) ?_))
    exact ih n hx.2
  exact this n hx
 unfold PySem.W.getL
 refine wg hf ?_
 simp[n.norefs]
theorem CQ.find {h:Heap} {v:V}:∀{l:List V} {xs:List Str} {es:List DictEntry} {i:Nat},CQ h ρ xs l es→xs.Nodup→l[i]?=some v→xs[i]?=some x→∃u,PySem.W.getL x es=some (some u)∧RV h ρ v u:=by
 intro l
 induction l with
 | nil=>exact fun zz zz e=>nomatch e
 | cons w r ih=>
  rintro xs es i ⟨y,xs',e,t,es',rfl,rfl,hk,rv,n⟩ nd hv hx
  unfold PySem.W.getL
  cases i with
  | zero=>cases hv;cases hx;exact ⟨e.val,by refine wg j4 (wg hk ?_);simp[Value.isStr],rv⟩
  | succ i=>
   have nd:=O5.mp nd
   refine BD (ih n nd.2 hv hx) fun u e1 e2=>?_
   have hne:y≠x:=fun q=>nd.1 (q▸B9 hx)
   refine ⟨u,?_,e2⟩
   unfold PySem.W.getL at e1
   have hs:e.key.isStr x=false:=by refine wg hk ?_;simp[Value.isStr,hne]
   have hr:e.refKey=false:=by simp[Aw,hk]
   refine wg j4 (wg hs (wg List.any_cons (wg hr (wg (Bool.false_or ..) ?_))))
   exact e1
theorem RV.handed {h:Heap} {v:V} {u:Value} (x:RV h ρ v u) (p:v.plain=true):handedIn u=true:=by
 cases v with
 | int i=>refine ex1 x fun t hh1=>?_;clear x;obtain rfl:=hh1;rfl
 | loc i=>refine BD x fun a hh1 zz=>?_;clear x;obtain rfl:=hh1;rfl
 | _=>cases p
theorem n_attr {C:Addr} {i:Nat} (h:NV g fd A e a) (hk:getOk g.K C x) (hx:(g.fl C)[i]?=some x) (ha:attributeBase e x fd.env (eval e fd.env)=eval e fd.env):NV g fd A (.Attribute e x pos) (xun (BM C i) a):=by
 intro s ρ lc hp K S F q Q E k
 show wpAny _ _ (do
  let o ←attributeBase _ x fd.env (eval _ fd.env)
  standAt pos.atName
  let r ←holding [o] (getAttr o x true)
  letTemporaryGo _ o r
  pure r) Q E s
 refine wg ha ?_
 refine A1 (h S F q fun {_ _ u ρ1 s1} q S1 X1 r1=>A1 (O8 (A1 (D4 ?_))))
 refine ex1 (frOf S1 (F.ext S.1 X1)) fun mm FF=>?_
 refine oE (C:=fun u=>wpAny g.m A (getAttr u x true) (fun r s=>wpAny g.m A (do letTemporaryGo _ u r;pure r) Q E s) E s1) S1.1 q r1 fun d l a b es n zz I q=>?_
 cases hi:l[i]? with
 | none=>rw[hi] at q;exact q.elim
 | some v=>
  rw[hi] at q
  refine BD (I.e.find I.nd hi hx) fun u q1 q2=>?_
  refine BD hk.c fun attr k3 k4=>?_
  exact get_own FF g.KX ⟨I.o,rfl,rfl,I.s⟩ hk.a hk.b k3 k4 q1 (q2.handed q.1) (A1 (wpAny_letTemporaryGo (A5 (Fin.tk (k.up X1) S1 q.2 q2))))
theorem n_meth {C fa:Addr} {mo:XE V} (hA:Rm A n) (ho:NV g fd A o mo) (h:NAr g fd A es ms) (hc:NC g (.ref fa) n fn) (hm:methOk g.K C x fa) (hf:x∉g.fl C)
  (he:EM o x apos es pos fd.env):NV g fd A (.Call (.Attribute o x apos) es [] pos) (BV C fn mo ms):=by
 intro s ρ lc hp K S F q Q E k
 obtain ⟨pl,he⟩:=he
 refine MethodCall_ (ho S F q fun {v _ u ρ1 s1} q S1 X1 r1=>?_) he
 obtain ⟨mm,FF⟩:=frOf S1 (F.ext S.1 X1)
 refine oE (C:=fun u=>RV s1.heap ρ1 v u→wpAny g.m A (getMethod u x pl) (fun r s=>wpAny g.m A (callWith pos r.1 r.2 (backTo pos (starEach es fd.env)) []) Q E s) E s1) S1.1 q.1 r1 (fun d l a b es' n' zz I zz r1=>?_) r1
 refine method_inst FF g.KX ⟨I.o,rfl,rfl,I.s⟩ hm.get hm.find hm.fn (I.e.none hf) ?_
 exact DU h (keeps_K hm.keep) S1 (F.ext S.1 X1) q.2 fun q S2 X2 r2=>⟨g.KX.keeps S2.1.base,hc.call hA S2 (.cons (r1.keep X2.k0) r2) q (k.up (X1.trans X2))⟩
noncomputable def RcOk (k:Nat) (T:String):Prop:=∀{g:Gl} {s:Shared} {ρ:Rho} {hp:Hp} {v:V} {u:Value},RS g ρ hp s→recv k hp v→RV s.heap ρ v u→s.TypeIs u T∧∀a,u= .ref a→∃o,s.heap.get? a=some o∧o.dict=none
theorem rc_l:RcOk 0 "list":=fun {_ s _ _ _ _} S q r=>lE (C:=fun u=>s.TypeIs u "list"∧∀a,u= .ref a→∃o,s.heap.get? a=some o∧o.dict=none) S.1 q r fun zz zz zz zz zz zz zz L zz=>⟨⟨_,L.o,rfl⟩,fun zz e=>by cases e;exact ⟨_,L.o,rfl⟩⟩
theorem rc_d:RcOk 1 "dict":=fun {_ s _ _ _ _} S q r=>dE (C:=fun u=>s.TypeIs u "dict"∧∀a,u= .ref a→∃o,s.heap.get? a=some o∧o.dict=none) S.1 q r fun zz zz zz zz zz zz zz zz D zz=>⟨⟨_,D.o,rfl⟩,fun zz e=>by cases e;exact ⟨_,D.o,rfl⟩⟩
theorem rc_s:RcOk 2 "str":=fun {_ s _ _ _ _} S q r=>sE (C:=fun u=>s.TypeIs u "str"∧∀a,u= .ref a→∃o,s.heap.get? a=some o∧o.dict=none) q r fun zz zz zz=>⟨j8 _ _ _,fun zz e=>nomatch e⟩
theorem n_bm {T id:String} {rk:Nat} {mo:XE V} (hr:RcOk rk T) (pa:PlainAttrs T) (slot:Slot T x id) (hty:typeOf (.builtin id)=pure (.type "method_descriptor")) (ho:NV g fd A o mo) (h:NAr g fd A es ms) (hop:NF g A (.builtin id) op)
  (he:EM o x apos es pos fd.env):NV g fd A (.Call (.Attribute o x apos) es [] pos) (xbm rk op mo ms):=by
 intro s ρ lc hp K S F q Q E k
 obtain ⟨pl,he⟩:=he
 refine MethodCall_ (ho S F q fun q S1 X1 r1=>?_) he
 obtain ⟨t1,t2⟩:=hr S1 q.1 r1
 exact getMethod_builtin t1 pa slot hty t2 (DU h (keepM rfl) S1 (F.ext S.1 X1) q.2 fun q S2 X2 r2=>⟨trivial,hop S2 (.cons (r1.keep X2.k0) r2) q (k.up (X1.trans X2))⟩)
end
section
variable (g:Gl) (fd:Fd) (A:Around) (ρ:Rho) (h:Heap)
noncomputable def FinN (N:Lc→Hp→Prop) (Q:Flow→Shared→Prop):Prop:=∀{lc hp ρ' s},N lc hp→RS g ρ' hp s→RF g fd ρ' lc s.heap→Ext fd.own ρ h ρ' s.heap→Q .next s
noncomputable def FinR (R:KV) (Q:Flow→Shared→Prop):Prop:=∀{v hp u ρ' s},R v hp→RS g ρ' hp s→Ext fd.own ρ h ρ' s.heap→RV s.heap ρ' v u→Q (.ret u) s
noncomputable def NS (t:Sem Flow) (x:XS):Prop:=∀{s ρ lc hp N R},RS g ρ hp s→RF g fd ρ lc s.heap→x lc hp N R→∀{Q E},FinN g fd ρ s.heap N Q→FinR g fd ρ s.heap R Q→wpAny g.m A t Q E s
noncomputable def FinT (N:Lc→Hp→Prop) (Q:Unit→Shared→Prop):Prop:=∀{lc hp ρ' s},N lc hp→RS g ρ' hp s→RF g fd ρ' lc s.heap→Ext fd.own ρ h ρ' s.heap→Q () s
noncomputable def NA (t:Value→Sem Unit) (x:XT):Prop:=∀{s ρ lc hp v u N},RS g ρ hp s→RF g fd ρ lc s.heap→RV s.heap ρ v u→x v lc hp N→∀{Q E},FinT g fd ρ s.heap N Q→wpAny g.m A (t u) Q E s
end
section
variable {g:Gl} {fd:Fd} {A:Around} {a:XE V} {p:XE Bool} {e t:Expr} {pos:Pos} {x y:XS} {ρ ρ1:Rho} {h h1:Heap} {N:Lc→Hp→Prop} {R:KV} {Q:Flow→Shared→Prop} {lc:Lc} {hp:Hp} {s:Shared}
theorem FinN.up (k:FinN g fd ρ h N Q) (X:Ext fd.own ρ h ρ1 h1):FinN g fd ρ1 h1 N Q:=fun q S F X'=>k q S F (X.trans X')
theorem FinR.up (k:FinR g fd ρ h R Q) (X:Ext fd.own ρ h ρ1 h1):FinR g fd ρ1 h1 R Q:=fun q S X' r=>k q S (X.trans X') r
theorem FinT.up {Q:Unit→Shared→Prop} (k:FinT g fd ρ h N Q) (X:Ext fd.own ρ h ρ1 h1):FinT g fd ρ1 h1 N Q:=fun q S F X'=>k q S F (X.trans X')
theorem s_nil:NS g fd A (execs [] fd.env) BF:=fun S F q zz zz k zz=>wpAny_execs_nil (k q S F .refl)
theorem s_cons {st rest} (h:NS g fd A (exec st fd.env) x) (h':NS g fd A (execs rest fd.env) y):NS g fd A (execs (st::rest) fd.env) (xseq x y):=
 fun S F q zz zz k kr=>wpAny_execs_cons (h S F q (fun q S1 F1 X1=>h' S1 F1 q (k.up X1) (kr.up X1)) fun q S1 X1 r1=>kr q S1 X1 r1)
theorem s_expr (h:NV g fd A e a) (hi:interactive fd.env=false) (hs:swapsWith e none pos.line fd.env=pure false):NS g fd A (exec (.Expr e pos) fd.env) (BX a):=
 fun S F q zz zz k zz=>wpAny_Expr_any (h S F q fun q S1 X1 zz=>k q S1 (F.ext S.1 X1) X1.up) hi hs
theorem s_ret (h:NV g fd A e a):NS g fd A (exec (.Return (some e) pos) fd.env) (Ba a):=fun S F q zz zz zz kr=>wpAny_Return_some (h S F q fun q S1 X1 r1=>kr q S1 X1.up r1)
theorem s_if {body orelse} (hc:NB g fd A t p) (h:NS g fd A (execs body fd.env) x) (h':NS g fd A (execs orelse fd.env) y):NS g fd A (exec (.If t body orelse pos) fd.env) (xif p x y):=
 fun S F q zz zz k kr=>wpAny_If (hc S F q fun {b _ _ _} q S1 X1=>match b,q with
  | true,q=>h S1 (F.ext S.1 X1) (q.1 rfl) (k.up X1.up) (kr.up X1.up)
  | false,q=>h' S1 (F.ext S.1 X1) (q.2 rfl) (k.up X1.up) (kr.up X1.up))
theorem s_no {t:Sem Flow}:NS g fd A t xno:=fun zz zz q=>q.elim
noncomputable def CV (fd:Fd) (x:Str):Prop:=fd.env.kindOf x=some .local∨∃c,fd.env.kindOf x=some .cell∧fd.env.cells.lookup x=some c∧c∈fd.own
theorem set_get {v w:V}:∀{lc:Lc} {i j:Nat},DM (setLc lc i (some v)) j=some w→(j=i∧w=v)∨(j≠i∧DM lc j=some w):=by
 intro lc
 induction lc with
 | nil=>exact fun e=>nomatch e
 | cons o r ih=>exact fun {i j} e=>match i,j,e with
  | 0,0,e=>.inl ⟨rfl,(G9 e).symm⟩
  | 0,_+1,e=>.inr ⟨nofun,e⟩
  | _+1,0,e=>.inr ⟨nofun,e⟩
  | i+1,j+1,e=>(ih (i:=i) (j:=j) e).imp (fun q=>⟨congrArg (·+1) q.1,q.2⟩) fun q=>⟨fun h=>q.1 (Q3 h),q.2⟩
theorem store (S:RS g ρ hp s) (F:RF g fd ρ lc s.heap) {i:Nat} {x:Str} {v:V} {u:Value} (hx:fd.names[i]?=some x) (ha:CV fd x) (r:RV s.heap ρ v u)
  {Q:Unit→Shared→Prop} {E:Value→Shared→Prop} (k:FinT g fd ρ s.heap (fun lc' hp'=>lc'=setLc lc i (some v)∧hp'=hp) Q):wpAny g.m A (storeName fd.env x u) Q E s:=by
 refine BD F.ns fun m hm hv=>?_
 have names:∀{j:Nat} {y:Str},fd.names[j]?=some y→y=x→j=i:=fun hj q=>(List.getElem?_inj (B6.mp hj).1 F.nd).mp (hj.trans (q▸hx.symm))
 have own:∀{c:Addr} {h':Heap} {t:Nat},c∈fd.own→K5 c s.heap h'→(∀y d,fd.env.cells.lookup y=some d→∃v₀,h'.IsCell d v₀)→
   (∀K:Bu s.heap ρ h' ρ,∃m',h'.Ns fd.env.locals m'∧∀j w,DM (setLc lc i (some v)) j=some w→∃y,fd.names[j]?=some y∧SlotAt fd ρ h' m' y w)→Q () {s with heap:=h',toks:=t}:=fun {c h' t} hc hs hcell hns=>by
  refine an2 (S.1.chgP (F.own _ hc) hs) fun S' X=>?_
  have K:=X.k (by intro a m;refine wg (A8.mp m) ?_;exact F.own _ hc)
  exact k ⟨rfl,rfl⟩ ⟨S',S.2⟩ ⟨F.kind,F.glob,F.blt,hns K,fun y d hd=>have q:=(F.cells y d hd).2;⟨hcell y d hd,q⟩,F.loc,F.own,F.nd⟩ (X.wider fun a m=>A8.mp m▸hc)
 rcases ha with hl | ⟨c,hl,hc,hco⟩
 ·refine wpAny_storeName_local hl hm (fun h' hn hs=>own F.loc hs (fun y d hd=>?_) fun K=>⟨_,hn,fun j w e=>?_⟩) (by refine wg F.kind ?_;rfl)
  ·refine an3 (F.cells y d hd) fun hh0 q2 zz=>?_;refine ex1 hh0 fun v₀ q1=>?_;clear hh0
   exact ⟨v₀,q1.sameBut hs q2⟩
  ·rcases set_get e with ⟨rfl,rfl⟩ | ⟨hji,e'⟩
   ·exact ⟨x,hx,.inl ⟨hl,u,by simp,r.keep K⟩⟩
   ·refine BD (hv j w e') fun y hy q=>?_
    exact ⟨y,hy,q.imp (fun w=>⟨w.1,w.2.imp fun zz w=>⟨(if_neg fun q=>hji (names hy q)).trans w.1,w.2.keep K⟩⟩) fun w=>⟨w.1,w.2.imp fun d w=>w.imp fun zz w=>⟨w.1,w.2.1.sameBut hs (F.cells y d w.1).2.1,w.2.2.keep K⟩⟩⟩
 ·refine an4 (F.cells x c hc) fun hh0 c2 zz c4=>?_;refine ex1 hh0 fun v₀ c1=>?_;clear hh0
  refine wpAny_storeName_cell F.kind hl hc c1 fun h' hn hs=>own hco hs (fun y d hd=>?_) fun K=>⟨m,hm.sameBut hs c2.symm,fun j w e=>?_⟩
  ·by_cases hdc:d=c
   ·exact ⟨_,hdc▸hn⟩
   ·refine an2 (F.cells y d hd) fun hh0 zz=>?_;refine ex1 hh0 fun v1 q1=>?_;clear hh0
    exact ⟨v1,q1.sameBut hs hdc⟩
  ·rcases set_get e with ⟨rfl,rfl⟩ | ⟨hji,e'⟩
   ·exact ⟨x,hx,.inr ⟨hl,c,u,hc,hn,r.keep K⟩⟩
   ·refine BD (hv j w e') fun y hy q=>?_
    exact ⟨y,hy,q.imp (fun w=>⟨w.1,w.2.imp fun zz w=>⟨w.1,w.2.keep K⟩⟩) fun w=>⟨w.1,w.2.imp fun d w=>w.imp fun zz w=>⟨w.1,w.2.1.sameBut hs fun q=>hji (names hy (c4 y (q▸w.1))),w.2.2.keep K⟩⟩⟩
theorem a_name {i:Nat} {x:Str} {pn:Pos} (hx:fd.names[i]?=some x) (ha:CV fd x):NA g fd A (assign (.Name x pn) fd.env) (BE i):=
 fun S F r q zz zz k=>wpAny_assign_Name (store S F hx ha r fun w S2 F2 X2=>k (by refine wg w.1 (wg w.2 ?_);exact q) S2 F2 X2)
theorem s_set {i:Nat} {x:Str} {pn:Pos} (h:NV g fd A e a) (hx:fd.names[i]?=some x) (ha:CV fd x) (hs:swapsWith e (some (.Name x pn)) pos.line fd.env=pure false):
  NS g fd A (exec (.Assign [.Name x pn] e pos) fd.env) (BO a (BE i)):=
 fun S F q zz zz k zz=>wpAny_Assign_Name (h S F q fun q S1 X1 r1=>store S1 (F.ext S.1 X1) hx ha r1 fun w S2 F2 X2=>k (by refine wg w.1 (wg w.2 ?_);exact q) S2 F2 (X1.up.trans X2)) hs
variable {E:Value→Shared→Prop}
theorem draw_list {it l:Addr} {items:Array Value} (hne:l≠it):∀(n i:Nat) (s:Shared) (Q:List Value→Shared→Prop),s.heap.IsListIter it l i→s.heap.IsList l items→i+n≤items.size→
  (∀h',h'.IsListIter it l (i+n)→K5 it s.heap h'→Q ((items.toList.drop i).take n) {s with heap:=h'})→wpAny g.m A (draw (.ref it) n) Q E s:=by
 intro n
 induction n with
 | zero=>exact fun i s Q hit ht hn hQ=>A5 (hQ s.heap hit (.refl ..))
 | succ n ih=>
  intro i s Q hit ht hn hQ
  have hlt:i<items.size:=C2 (C0 _ _) hn
  refine A1 (o5 hit ht (x:=items[i]) (by simp[hlt]) fun h₁ hit₁ hs₁=>?_)
  refine A1 (D4 (ih (i+1) _ _ hit₁ (ht.extBut hs₁.extBut hne) (by refine wg (G6 ..) ?_;exact hn) fun h₂ hit₂ hs₂=>A5 ?_))
  have hd:items.toList.drop i=items[i]::items.toList.drop (i+1):=by simp[J1,hlt]
  have:=hQ h₂ (by refine wh (G6 ..) ?_;exact hit₂) (hs₁.trans hs₂)
  rw[hd] at this
  exact this
theorem FW {t:Addr} {items:Array Value} {Q:List Value→Shared→Prop} (hh:A.handled=none) (ht:s.heap.IsList t items)
  (hQ:∀h',U3 s.heap.objs.size s.heap h'→Q items.toList {s with heap:=h'}):wpAny g.m A (unpackItems (.ref t) items.size none) Q E s:=by
 have hlt:t≠s.heap.objs.size:=by refine BD ht fun o ho zz=>?_;clear ht;exact E4 (G1 ho)
 refine A1 ?_
 ·refine A1 (V2 ht.typeIs slot_list_iter.lookup (A5 ?_))
  refine A1 (D4 (o6 ht ?_))
  refine A1 (D4 (draw_list hlt items.size 0 _ _ ⟨_,B0 _ rfl,rfl,rfl⟩ (ht.push _) (B3 (I0 _)) fun h₁ hit₁ hs₁=>?_))
  refine wg R1 (wg (Q9 (B3 C3)) (wg (if_neg (by simp)) ?_))
  refine A1 (D4 (r8 hh hit₁ ((ht.push _).extBut hs₁.extBut hlt) (by simp) fun h₂ he₂=>?_))
  exact A5 (hQ h₂ fun b o hb e=>he₂ b o hb (hs₁.extBut b o hb (Heap.get?_push_of_some _ e)))
theorem unp_sim (hh:A.handled=none) (S:RS g ρ hp s) {v:V} {u:Value} {n:Nat} {k:List V→Prop} (x:RV s.heap ρ v u) (q:unp hp v n k) {Q:List Value→Shared→Prop}
  (c:∀{l us s'},k l→RS g ρ hp s'→Ext [] ρ s.heap ρ s'.heap→RVs s'.heap ρ l us→Q us s'):wpAny g.m A (unpackItems u n none) Q E s:=by
 have fin:∀{l:List V} {us:Array Value} {h':Heap},k l→RVs s.heap ρ l us.toList→U3 s.heap.objs.size s.heap h'→s.heap.objs.size≤h'.objs.size→Q us.toList {s with heap:=h'}:=fun q r he sz=>by
  refine an2 (S.1.same (fun b o e=>he b o (E4 (G1 e)) e) sz) fun S' X=>?_
  exact c q ⟨S',S.2⟩ X (r.keep X.k0)
 have lst:aL hp v (fun l=>l.length=n∧k l)→wpAny g.m A (unpackItems u n none) Q E s:=fun q=>aE (C:=fun u=>wpAny _ _ (unpackItems u n none) _ _ _) S.1 q x fun l a us m q L=>by
  obtain rfl:n=us.size:=q.1.symm.trans L.z
  exact wpAny_size (FW hh (Bm L.o) fun h' he sz=>fin q.2 L.r he sz)
 cases v with
 | tup l=>
  refine tR (C:=fun u=>wpAny _ _ (unpackItems u n none) _ _ _) x fun a us T=>?_
  obtain rfl:n=us.size:=q.1.symm.trans T.z
  exact wpAny_size (wpAny_unpackItems_tuple hh (BS T.o) fun h' he sz=>fin q.2 T.r he sz)
 | _=>exact lst q
end
section
variable {g:Gl} {fd:Fd} {A:Around} {a b:XE V} {T value o i:Expr} {es:List Expr} {pos:Pos} {t:XT} {ts:List XT} {ms:List (XE V)}
noncomputable def NAs (g:Gl) (fd:Fd) (A:Around) (bs:List (Value→Sem Unit)) (ts:List XT):Prop:=
 ∀{s ρ lc hp vs us N},RS g ρ hp s→RF g fd ρ lc s.heap→RVs s.heap ρ vs us→xseqT ts vs lc hp N→∀{Q E},FinT g fd ρ s.heap N Q→wpAny g.m A (assignInOrder bs us) Q E s
theorem as_nil:NAs g fd A [] []:=by
 intro s ρ lc hp vs us N S F r q Q E k
 cases vs with
 | nil=>refine wg r.nilI ?_;exact A5 (k q S F .refl)
 | cons v vs=>exact q.elim
theorem Ho {b:Value→Sem Unit} {bs} (h:NA g fd A b t) (h':NAs g fd A bs ts):NAs g fd A (b::bs) (t::ts):=by
 intro s ρ lc hp vs us N S F r q Q E k
 cases vs with
 | nil=>exact q.elim
 | cons v vs=>
  refine CE r.consI fun u us' hh2 r1 r2=>?_;obtain rfl:=hh2
  exact A1 (D4 (h S F r1 q fun q S1 F1 X1=>h' S1 F1 (r2.keep (X1.kO F)) q (k.up X1)))
theorem a_tup {c} (hh:A.handled=none) (h:NAs g fd A ((assignEach es fd.env).map (·.2)) ts) (hn:(assignEach es fd.env).length=ts.length) (hs:(assignEach es fd.env).findIdx? (·.1)=none):
  NA g fd A (assign (.Tuple es c pos) fd.env) (Bw ts):=by
 intro s ρ lc hp v u N S F r q Q E k
 refine wg (arm_assign_Tuple ..) ?_
 refine A1 (O8 ?_)
 unfold unpack
 refine wg hn (wg hs ?_)
 exact A1 (D4 (unp_sim hh S r q fun q S1 X1 r1=>h S1 (F.ext S.1 X1) r1 q (k.up X1.up)))
theorem s_asg (h:NV g fd A value a) (ht:NA g fd A (assign T fd.env) t)
  (hs:swapsWithSole [T] value pos.line fd.env=pure false) (hw:swappedStores [T] value fd.env=pure none) (he:(assignEach [T] fd.env).map (·.2)=[assign T fd.env]):
  NS g fd A (exec (.Assign [T] value pos) fd.env) (BO a t):=by
 intro s ρ lc hp N R S F q Q E k kr
 refine wpAny_Assign_stores (h S F q fun q S1 X1 r1=>?_) hs hw
 refine wg he ?_
 exact ht S1 (F.ext S.1 X1) r1 q fun q S2 F2 X2=>k q S2 F2 (X1.up.trans X2)
theorem RVs.rev {ρ:Rho} {h:Heap} {vs:List V} {us:List Value} (x:RVs h ρ vs us):RVs h ρ vs.reverse us.reverse:=
 RVs.rec' (P:=fun vs us=>RVs h ρ vs.reverse us.reverse) .nil (fun a zz ih=>by refine wg Al (wg Al ?_);exact ih.app (.cons a .nil)) x
theorem as_names:∀{is:List Nat} {xs:List Str},(∀(j:Nat) (x:Str),xs[j]?=some x→∃i,is[j]?=some i∧fd.names[i]?=some x∧CV fd x)→is.length=xs.length→NAs g fd A (xs.map fun n=>bindName fd.env n) (names is):=by
 intro is
 induction is with
 | nil=>intro xs _ hl;refine wg (N8.mp hl.symm) ?_;exact as_nil
 | cons i is ih=>
  intro xs h hl
  cases xs with
  | nil=>cases hl
  | cons x xs=>
   refine Bo (h 0 x rfl) fun i' e h1 h2=>?_
   cases e
   exact Ho (fun S F r q zz zz k=>wpAny_bindName (store S F h1 h2 r fun w S2 F2 X2=>k (by refine wg w.1 (wg w.2 ?_);exact q) S2 F2 X2)) (ih (fun j y hj=>h (j+1) y hj) (Q3 hl))
theorem s_swap {c} {tpos:Pos} {is:List Nat} {xs:List Str} (hh:A.handled=none) (h:NV g fd A value a)
  (hn:∀(j:Nat) (x:Str),xs.reverse[j]?=some x→∃i,is.reverse[j]?=some i∧fd.names[i]?=some x∧CV fd x) (hl:is.length=xs.length)
  (hw:swappedStores [.Tuple es c tpos] value fd.env=pure (some xs)) (hs:swapsWithSole [.Tuple es c tpos] value pos.line fd.env=pure false):
  NS g fd A (exec (.Assign [.Tuple es c tpos] value pos) fd.env) (xswap a is):=by
 intro s ρ lc hp N R S F q Q E k kr
 refine Assign_Tuple_swapped (h S F q fun q S1 X1 r1=>?_) hs hw
 refine wh hl ?_
 exact unp_sim hh S1 r1 q fun q S2 X2 r2=>as_names (is:=is.reverse) hn (by exact wg AL (wg AL (wg hl rfl))) S2 ((F.ext S.1 X1).ext S1.1 X2) r2.rev q fun q S3 F3 X3=>k q S3 F3 ((X1.trans X2).up.trans X3)
structure setOk (K:Frag) (C:Addr) (x:Str):Prop where
 set:findIn K (.ref C) "__setattr__"=some (some (.builtin "object.__setattr__"))
 over:plainOver K C=true
 taker:takerIn K C x=some none
 dict:hasDictIn K C=true
noncomputable def NSt (g:Gl) (A:Around) (st:St3):Prop:=∀{s ρ hp o i v uo ui uv N},RS g ρ hp s→RV s.heap ρ o uo→RV s.heap ρ i ui→RV s.heap ρ v uv→st o i v hp N→∀{Q:Unit→Shared→Prop} {E},(∀{hp' s'},N hp'→RS g ρ hp' s'→Ext [] ρ s.heap ρ s'.heap→Q () s')→wpAny g.m A (setItem uo ui uv) Q E s
theorem st_l:NSt g A setL:=by
 intro s ρ hp o i v uo ui uv N S ro ri rv q Q E k
 refine iE (C:=fun u=>wpAny _ _ (setItem _ u _) _ _ _) q ri fun i t q=>lE (C:=fun u=>wpAny _ _ (setItem u _ _) _ _ _) S.1 q ro fun j l a us m ej zz L q=>?_
 obtain ⟨⟨h0,h1,h2⟩,q⟩:=q
 have z:=L.z
 obtain ⟨S',X⟩:=S.1.putList (f:=(·.setIfInBounds i.toNat uv)) (l':=l.set i.toNat v) ej L (by refine wg Array.toList_setIfInBounds ?_;exact L.r.set rv _)
 have hT:s.TypeIs (.ref a) "list":=⟨_,L.o,rfl⟩
 unfold setItem
 try with_reducible refine D4 ?_
 first | refine A1 (A5 ?_) | skip
 refine A1 (o0 hT (by decide) ?_)
 refine A1 (K8 (name:=C7 "__setitem__") hT slot_list_setitem
  (H9 slot_list_setitem hT entry_list_setitem ?_ (args_list_setitem _ _ _)))
 show wpAny _ _ (Builtin.List.listSubscript? (.int i t) >>=_) _ _ s
 refine A1 (wpAny_listSubscript_int (fitsIndex_of h0 (ix63 ‹_› ‹_› ‹_›)) ?_)
 obtain ⟨j,rfl⟩:=Int.eq_ofNat_of_zero_le h0
 have hj:j<us.size:=by refine wh z ?_;exact h1
 refine A1 (A1 (wpAny_seqItemAt L.o rfl (A5 ?_)))
 refine wg (J2 hj) ?_
 show wpAny _ _ (setSeqItemAt a j uv >>=_) _ _ s
 refine A1 (wpAny_setSeqItemAt L.o rfl ?_)
 have fin:Q () {s with heap:=s.heap.update a (G8 (·.setIfInBounds j uv))}:=k q ⟨S',S.2⟩ X
 first
  | exact A1 (A5 (A5 ⟨.none,rfl,A5 fin⟩))
  | exact A5 ⟨.none,rfl,A5 fin⟩
theorem st_d {n:Nat} (hA:Rm A n):NSt g A Em:=by
 intro s ρ hp o i v uo ui uv N S ro ri rv q Q E k
 have hu:=hA.un
 refine dE (C:=fun u=>wpAny _ _ (setItem u _ _) _ _ _) S.1 q ro fun j b d a es m ej zz D q=>?_
 have hT:s.TypeIs (.ref a) "dict":=⟨_,D.o,rfl⟩
 unfold setItem
 try with_reducible refine D4 ?_
 refine A1 (o0 hT (by decide) ?_)
 refine A1 (K8 (name:=C7 "__setitem__") hT slot_dict_setitem
  (H9 slot_dict_setitem hT entry_dict_setitem ?_ (args_dict_setitem _ _ _)))
 refine A1 (f6 hT ?_)
 show wpAny _ _ (dictSet a ui uv >>=_) _ _ s
 exact A1 (HH S (un1 hu rfl) ej D q.1 ri rv fun h' tk S' X=>A5 ⟨.none,rfl,A5 (k q.2 S' X)⟩)
theorem a_sub {p:Pos} {st:St3} (hs:NSt g A st) (ho:NV g fd A o a) (hi:NV g fd A i b):NA g fd A (assign (.Subscript o i p) fd.env) (De st a b):=by
 intro s ρ lc hp v u N S F r q Q E k
 refine wg (assign_Subscript ..) ?_
 refine A1 (D4 (ho S F q fun q S1 X1 r1=>?_))
 have F1:=F.ext S.1 X1
 refine A1 (D4 (hi S1 F1 q fun q S2 X2 r2=>?_))
 exact A1 (O8 (A1 (D4 (hs S2 (r1.keep X2.k0) r2 ((r.keep X1.k0).keep X2.k0) q fun q S3 X3=>Dy (k q S3 ((F1.ext S1.1 X2).ext S2.1 X3) ((X1.trans X2).trans X3).up)))))
end
section
variable {g:Gl} {fd:Fd} {A:Around} {E:Value→Shared→Prop} {s:Shared} {ρ:Rho} {hp:Hp} {h:Heap}
theorem CQ.put {x:Str} {v:V} {u:Value} {hsh:Int} {t:Tok} (ru:RV h ρ v u):∀{l:List V} {xs:List Str} {es:List DictEntry} {i:Nat},CQ h ρ xs l es→xs.Nodup→xs[i]?=some x→i≤l.length→
  CQ h ρ xs (putN i v l) (putL x hsh (.str x t) u es)∧(putL x hsh (.str x t) u es).length≤es.length+1∧(getL x es).isSome=true∧es.length=l.length:=by
 intro l
 induction l with
 | nil=>
  intro xs es i n nd hx hi
  obtain rfl:i=0:=AA.mp hi
  refine wg (show es=[] from n) ?_
  cases xs with
  | nil=>cases hx
  | cons y xs=>cases hx;exact ⟨⟨x,xs,_,t,[],rfl,rfl,rfl,ru,rfl⟩,B2 _,rfl,rfl⟩
 | cons w r ih=>
  rintro xs es i ⟨y,xs',e,ty,es',rfl,rfl,hk,rw',n⟩ nd hx hi
  have nd':=O5.mp nd
  have hs:e.key.isStr x=decide (y=x):=by refine wg hk ?_;rewrite[Bool.eq_iff_iff];simp[Value.isStr]
  have hr:e.refKey=false:=by simp[Aw,hk]
  cases i with
  | zero=>
   cases hx
   have hs1:e.key.isStr x=true:=hs.trans (decide_eq_true rfl)
   have e1:putL x hsh (.str x t) u (e::es')={e with val:=u}::es':=by unfold putL;exact wg (if_pos hs1) rfl
   refine ⟨by refine wg e1 ?_;exact ⟨x,xs',_,ty,es',rfl,rfl,hk,ru,n⟩,by refine wg e1 ?_;exact O9 _,?_,?_⟩
   ·unfold getL;refine wg j4 (wg hs1 ?_);rfl
   ·have:∀{l:List V} {xs:List Str} {es:List DictEntry},CQ h ρ xs l es→es.length=l.length:=by
     intro l
     induction l with
     | nil=>intro xs es n;refine wg (show es=[] from n) ?_;rfl
     | cons v r ih=>rintro xs es ⟨y,xs',e,ty,es',rfl,rfl,hk,rw',n⟩;exact congrArg (·+1) (ih n)
    exact congrArg (·+1) (this n)
  | succ i=>
   have hne:y≠x:=fun q=>nd'.1 (q▸B9 hx)
   have hs0:e.key.isStr x=false:=hs.trans (decide_eq_false hne)
   refine an4 (ih n nd'.2 hx (D6 hi)) fun q1 q2 q3 q4=>?_
   have e1:putL x hsh (.str x t) u (e::es')=e::putL x hsh (.str x t) u es':=by rewrite[putL];exact wg (if_neg (by rw[hs0];exact D3)) rfl
   refine ⟨by refine wg e1 ?_;exact ⟨y,xs',e,ty,_,rfl,rfl,hk,rw',q1⟩,by refine wg e1 ?_;exact B1 q2,?_,congrArg (·+1) q4⟩
   unfold getL at q3 ⊢
   refine wg j4 (wg hs0 (wg List.any_cons (wg hr (wg (Bool.false_or ..) ?_))));exact q3
theorem putN_len {v:V}:∀{l:List V} {i:Nat},(putN i v l).length≤l.length+1:=by
 intro l
 induction l with
 | nil=>exact fun {i}=>show 1≤1 from B2 1
 | cons w r ih=>exact fun {i}=>match i with
  | 0=>O9 _
  | i+1=>B1 (ih (i:=i))
set_option tactic.hygienic true in
theorem osa_raw {K:Frag} {x C dx:Addr} {es:List DictEntry} {n:Nat} {name:Str} {tk:Tok} {v:Value} {R:Result→Shared→Prop} (X:K.In s.heap) (hx:s.heap.get? x=some (instObj C dx)) (D:s.heap.get? dx=some (dictOf es n)) (O:setOk K C name)
  (hl:(getL name es).isSome=true) (hz:(putL name (U4 g.w.params name) (.str name s.toks) v es).length≤901)
  (h:R (.ok (.ret .none)) {s with heap:=s.heap.update dx (Am name (U4 g.w.params name) (.str name s.toks) v),toks:=s.toks+1}):
  codeAny g.m A (.call (.builtin "object.__setattr__") ⟨[.ref x,.str name tk,v],[]⟩) R s:=by
 refine osa_open X (⟨hx,rfl,rfl,D⟩:InstAt s.heap x (instObj C dx) C (some (dictOf es n))) O.over O.taker fun b=>?_
 refine BD (any_some O.dict) fun cd hc hd'=>?_
 have e:=putName_dict name (U4 g.w.params name) (.str name s.toks) v es n
 have D':(s.heap.update dx (Am name (U4 g.w.params name) (.str name s.toks) v)).get? dx=some (dictOf (putL name (U4 g.w.params name) (.str name s.toks) v es) (PySem.W.putN name es n)):=by
  refine wh e ?_;exact F4 _ D (by refine wg e ?_;rfl)
 refine A1 (A5 (A1 (A1 (wpAny_loadPart hx (A1 ((looks_clsIn X hc).here ?_))))))
 refine wg hd' ?_
 refine A5 (a:=some dx) (A1 (A5 (A1 ?_)))
 refine A1 (A1 (T6 (A5 (A1 (wpAny_mkText (A1 (wpAny_loadPart D ?_)))))))
 unfold getL at hl
 dsimp only
 have c:(!es.toArray.any (·.key.isStr name)&&es.toArray.any (·.refKey))=false:=by
  refine wh Array.any_toList (wh Array.any_toList ?_)
  split at hl
  ·rename_i en he
   refine wg (List.any_eq_true.mpr ⟨en,List.mem_of_find?_eq_some he,List.find?_some he⟩) ?_;rfl
  ·split at hl
   ·cases hl
   ·rename_i z;rw[t7] at z;exact wg z (wg (Bool.and_false ..) rfl)
 refine wg (aRefKeyMayBeTheName_at ..) (wg c ?_)
 refine wpAny_updatePart D ?_
 exact A1 (wpAny_lookBehind D' (pastItsLine_dict (by refine wg H5 (wg M0 ?_);solve_by_elim (maxDepth:=5) [A3,G3,B7,C0,D5,A9,C2,E6,I7,B1,B2,G7])) (A5 h))
theorem a_attr {C:Addr} {x:Str} {i:Nat} {o:Expr} {p:Pos} {a:XE V} (ho:NV g fd A o a) (O:setOk g.K C x) (hx:(g.fl C)[i]?=some x):NA g fd A (assign (.Attribute o x p) fd.env) (CN C i a):=by
 intro s ρ lc hp v u N S F r q Q E k
 refine wg (assign_Attribute ..) ?_
 refine A1 (D4 (ho S F q fun {_ hp1 _ ρ1 s1} q S1 X1 r1=>?_))
 have F1:=F.ext S.1 X1
 refine A1 (O8 (A1 (D4 ?_)))
 refine oE (C:=fun u'=>wpAny _ _ (setAttr u' _ _) _ _ _) S1.1 q r1 fun d l ao b es n zz I q=>?_
 have Y:=I.e.put (x:=x) (v:=v) (u:=u) (hsh:=U4 g.w.params x) (t:=s1.toks+1) (r.keep X1.k0) I.nd hx q.1.1
 have hz:=q.1.2
 have D':=F4 (f:=Am x (U4 g.w.params x) (.str x (s1.toks+1)) u) I.s (by refine wg (putName_dict ..) ?_;rfl)
 rw[putName_dict] at D'
 refine an2 (S1.1.putAt (po:= .ns C (putN i v l)) I.d (C9 s1.heap b (Am x (U4 g.w.params x) (.str x (s1.toks+1)) u)) fun K=>⟨_,_,D',(I.e.keep K).put ((r.keep X1.k0).keep K) I.nd hx q.1.1 |>.1,I.nd,A3 putN_len (by solve_by_elim (maxDepth:=5) [A3,G3,B7,C0,D5,A9,C2,E6,I7,B1,B2,G7])⟩) fun S' X=>?_
 refine set_plain (g.KX.keeps S1.1.base) (⟨I.o,rfl,rfl,I.s⟩:InstAt s1.heap ao (instObj C b) C (some (dictOf es n))) O.set (osa_raw (s:={s1 with toks:=s1.toks+1}) (g.KX.keeps S1.1.base) I.o I.s O Y.2.2.1 (A3 Y.2.1 (by refine wg Y.2.2.2 ?_;solve_by_elim (maxDepth:=5) [A3,G3,B7,C0,D5,A9,C2,E6,I7,B1,B2,G7])) ?_)
 exact Dy (k q.2 (s:={s1 with heap:=s1.heap.update b (Am x (U4 g.w.params x) (.str x (s1.toks+1)) u),toks:=s1.toks+2}) ⟨S',S1.2⟩ (F1.ext S1.1 X) (X1.trans X).up)
end
structure GS (g:Gl) (A:Around) (T:Expr) (P:List Addr) (G:Hp→Prop) (I:Addr) (Rem:List V→Heap→Rho→Prop):Prop where
 keep:∀{vs h ρ h' ρ'},Rem vs h ρ→Bu h ρ h' ρ'→(∀a∈P,∀o,h.get? a=some o→h'.get? a=some o)→Rem vs h' ρ'
 step:∀{v vs s ρ hp E} {Q0:Shared→Prop} {Q1:Value→Shared→Prop},RS g ρ hp s→(∀a∈P,a∈ρ.p)→G hp→Rem (v::vs) s.heap ρ→(∀{u s'},RS g ρ hp s'→Ext P ρ s.heap ρ s'.heap→RV s'.heap ρ v u→Rem vs s'.heap ρ→Q1 u s')→
  wpAny g.m A (pyNext (.ref I)) (fun r s1=>match r with | none=>Q0 s1 | some u=>wpAny g.m A (letOwnedTupleGo T (.ref I) u) (fun zz s2=>Q1 u s2) E s1) E s
 done:∀{s ρ hp E} {Q0:Shared→Prop} {Q1:Value→Shared→Prop},RS g ρ hp s→(∀a∈P,a∈ρ.p)→G hp→Rem [] s.heap ρ→(∀{s'},RS g ρ hp s'→Ext P ρ s.heap ρ s'.heap→Q0 s')→
  wpAny g.m A (pyNext (.ref I)) (fun r s1=>match r with | none=>Q0 s1 | some u=>wpAny g.m A (letOwnedTupleGo T (.ref I) u) (fun zz s2=>Q1 u s2) E s1) E s
noncomputable def Tg (T:Expr):Prop:=(∃x p,T= .Name x p)∨∃es c p,T= .Tuple es c p
section
variable {g:Gl} {A:Around} {E:Value→Shared→Prop} {s:Shared} {ρ:Rho} {hp:Hp} {h h':Heap} {P:List Addr}
theorem RH.chgs (S:RH g ρ hp h) (hP:∀a∈P,a∈ρ.p) (hk:∀b o,b∉P→h.get? b=some o→h'.get? b=some o) (sz:h.objs.size≤h'.objs.size):RH g ρ hp h'∧Ext P ρ h ρ h':=by
 have X:Ext P ρ h ρ h':=⟨Ext.refl.pre (own:=[]) (h:=h),rfl,sz,fun b o e zz h2=>hk b o h2 e⟩
 have nin:∀{a},a∈ρ.l→a∉P:=fun m m'=>(S.pt _ (hP _ m')).1 m
 exact ⟨⟨S.len,S.nodup,fun i o e=>(S.objs i o e).imp fun a w=>⟨w.1,w.2.keep (X.k hP) fun o e=>hk a o (nin (B9 w.1)) e⟩,fun a m=>⟨(S.nt a m).1,A9 (S.nt a m).2 sz⟩,
  fun a m=>⟨(S.pt a m).1,(S.pt a m).2.1,A9 (S.pt a m).2.2 sz⟩,fun b o e=>hk b o (fun m=>G4.mpr (S.pt b (hP b m)).2.1 (G1 e)) (S.base b o e),A3 S.size sz⟩,X⟩
theorem letGo_cls {T:Expr} (hT:Tg T) {a:Addr} {u:Value} {o:Obj} {n:String} {vs:Array Value} (ho:s.heap.get? a=some o) (hc:o.cls= .type n) (hd:o.data= .fields vs)
  (hn:["enumerate","zip","dict_itemiterator","dict_reverseitemiterator","odict_iterator","itertools.zip_longest","itertools.pairwise"].contains n=false)
  {Q:Unit→Shared→Prop} (h:Q () s):wpAny g.m A (letOwnedTupleGo T (.ref a) u) Q E s:=by
 rcases hT with ⟨x,p,rfl⟩ | ⟨es,c,p,rfl⟩
 ·exact A5 h
 ·cases u with
  | ref t=>
   refine A1 (wpAny_load ho ?_)
   refine wg hc (wg hd ?_)
   show wpAny _ A (if (["enumerate","zip","dict_itemiterator","dict_reverseitemiterator","odict_iterator","itertools.zip_longest","itertools.pairwise"].contains n&&vs[0]?==some (rawInt t))=true then _ else _) Q E s
   refine wg hn (wg (Bool.false_and ..) (wg (if_neg D3) ?_))
   exact A5 h
  | _=>exact A5 h
theorem it_mk {T:Expr} {G:Hp→Prop} {I:Addr} {l:List V} {J:Nat→Heap→Prop} {Z:Heap→Rho→Prop} (hT:Tg T)
  (jo:∀{i h},J i h→∃o n vs,h.get? I=some o∧o.cls= .type n∧o.data= .fields vs∧["enumerate","zip","dict_itemiterator","dict_reverseitemiterator","odict_iterator","itertools.zip_longest","itertools.pairwise"].contains n=false)
  (jk:∀{i h h'},J i h→(∀o,h.get? I=some o→h'.get? I=some o)→J i h') (zk:∀{h ρ h' ρ'},Z h ρ→Bu h ρ h' ρ'→Z h' ρ')
  (item:∀{s ρ hp i v E} {Q:Option Value→Shared→Prop},RS g ρ hp s→G hp→Z s.heap ρ→J i s.heap→l[i]?=some v→(∀{h' tk u},J (i+1) h'→(∀b o,b≠I→s.heap.get? b=some o→h'.get? b=some o)→RV s.heap ρ v u→Q (some u) {s with heap:=h',toks:=tk})→wpAny g.m A (pyNext (.ref I)) Q E s)
  (done:∀{s ρ hp E} {Q:Option Value→Shared→Prop},RS g ρ hp s→G hp→Z s.heap ρ→J l.length s.heap→(∀{h'},(∀b o,b≠I→s.heap.get? b=some o→h'.get? b=some o)→Q none {s with heap:=h'})→wpAny g.m A (pyNext (.ref I)) Q E s):
  GS g A T [I] G I (fun vs h ρ=>∃i,J i h∧vs=l.drop i∧i≤l.length∧Z h ρ) where
 keep:=fun x K hk=>E9 (fun i w=>⟨jk w.1 (hk I (.head _)),w.2.1,w.2.2.1,zk w.2.2.2 K⟩) x
 step:=fun {v vs s ρ hp E Q0 Q1} S hP hG ⟨i,j,e,hi,z⟩ k=>by
  have hlt:i<l.length:=P3 hi fun q=>by rw[q,List.drop_length] at e;cases e
  rw[J1 hlt] at e
  injection e with e1 e2
  refine wpAny_size (item S hG z j (v:=v) (by refine wg e1 ?_;exact B4 hlt) fun {h' tk u} j' hk r sz=>?_)
  refine an2 (S.1.chgs (P:=[I]) hP (fun b o m e=>hk b o (fun q=>m (q▸.head _)) e) sz) fun S' X=>?_
  refine Dw (jo j') fun o n fs o1 o2 hh=>?_;refine an2 hh fun o3 o4=>?_;clear hh
  exact letGo_cls hT o1 o2 o3 o4 (k ⟨S',S.2⟩ X (r.keep (X.k hP)) ⟨i+1,j',e2,hlt,zk z (X.k hP)⟩)
 done:=fun {s ρ hp E Q0 Q1} S hP hG ⟨i,j,e,hi,z⟩ k=>by
  have hz:i=l.length:=L9 hi (AB.mp e.symm)
  subst hz
  refine wpAny_size (done S hG z j fun {h'} hk sz=>?_)
  refine an2 (S.1.chgs (P:=[I]) hP (fun b o m e=>hk b o (fun q=>m (q▸.head _)) e) sz) fun S' X=>?_
  exact k (s':={s with heap:=h'}) ⟨S',S.2⟩ X
theorem no_item {l:List V} {us:Array Value} (r:RVs h ρ l us.toList):us[l.length]?=none:=O0 (by refine wg r.len (wg C3 ?_);exact B2 _)
theorem at_item {l:List V} {us:Array Value} {i:Nat} {v:V} (r:RVs h ρ l us.toList) (e:l[i]?=some v):∃u,us[i]?=some u∧RV h ρ v u:=by
 refine BD (r.get e) fun u h1 h2=>?_
 exact ⟨u,by refine wh D7 ?_;exact h1,h2⟩
variable {T:Expr} {I a d:Addr} {l:List V} {us:Array Value}
theorem it_tup (hh:A.handled=none) (hT:Tg T):GS g A T [I] tt I (fun vs h ρ=>∃i,h.IsTupleIter I a i∧vs=l.drop i∧i≤l.length∧IsT h ρ l a us):=
 it_mk hT (fun x=>x.elim fun o w=>⟨o,_,_,w.1,w.2.1,w.2.2,by decide⟩) (fun x hk=>x.imp fun o w=>⟨hk o w.1,w.2⟩) (fun z K=>have q:=K.k z.x z.o;⟨q.2,q.1,z.r.keep K,z.z⟩)
  (fun S zz z j e k=>by
   refine BD (at_item z.r e) fun u h1 h2=>?_
   exact wpAny_pyNext_tuple_item j (BS z.o) h1 fun h' j' hs=>k j' (fun b o hb e=>BG hs e hb) h2)
  fun S zz z j k=>wpAny_pyNext_tuple_end hh j (BS z.o) (no_item z.r) fun h' he=>k fun b o hb e=>he b o hb e
theorem it_list {G:Hp→Prop} {Z:Heap→Rho→Prop} (hh:A.handled=none) (hT:Tg T) (zk:∀{h ρ h' ρ'},Z h ρ→Bu h ρ h' ρ'→Z h' ρ') (zl:∀{s ρ hp},RS g ρ hp s→G hp→Z s.heap ρ→∃us n,IsL s.heap ρ l a us n):
  GS g A T [I] G I (fun vs h ρ=>∃i,h.IsListIter I a i∧vs=l.drop i∧i≤l.length∧Z h ρ):=
 it_mk hT (fun x=>x.elim fun o w=>⟨o,_,_,w.1,w.2.1,w.2.2,by decide⟩) (fun x hk=>x.imp fun o w=>⟨hk o w.1,w.2⟩) zk
  (fun S hG z j e k=>by
   refine ex2 (zl S hG z) fun us n L=>?_
   refine BD (at_item L.r e) fun u h1 h2=>?_
   exact o5 j (Bm L.o) h1 fun h' j' hs=>k j' (fun b o hb e=>BG hs e hb) h2)
  fun S hG z j k=>by
   refine ex2 (zl S hG z) fun us n L=>?_
   exact r8 hh j (Bm L.o) (no_item L.r) fun h' he=>k fun b o hb e=>he b o hb e
theorem it_str {x:Str} {t:Tok} (hh:A.handled=none) (hT:Tg T):GS g A T [I] tt I (fun vs h ρ=>∃i,h.IsStrIter I "str_ascii_iterator" x t i∧vs=(x.cps.toList.map fun c=>V.str ⟨#[c]⟩).drop i∧i≤(x.cps.toList.map fun c=>V.str ⟨#[c]⟩).length∧True):=
 it_mk hT (fun x=>x.elim fun o w=>⟨o,_,_,w.1,w.2.1,w.2.2,by decide⟩) (fun x hk=>x.imp fun o w=>⟨hk o w.1,w.2⟩) (fun zz zz=>trivial)
  (fun S zz zz j e k=>by
   rw[G0] at e
   refine BD (I9.mp e) fun c e1 hh2=>?_;obtain rfl:=hh2
   exact wpAny_pyNext_ascii_item j (by refine wh D7 ?_;exact e1) fun h' j' hs=>k j' (fun b o hb e=>BG hs e hb) ⟨_,rfl⟩)
  fun S zz zz j k=>wpAny_pyNext_ascii_end hh j (O0 (by refine wg (A4 ..) (wg C3 ?_);exact B2 _)) fun h' he=>k fun b o hb e=>he b o hb e
theorem rngV_len:∀{n:Nat} {x:Int},(EU x n).length=n:=by
 intro n
 induction n with
 | zero=>exact rfl
 | succ n ih=>exact congrArg (·+1) ih
theorem rngV_at:∀{n i:Nat} {x:Int} {v:V},(EU x n)[i]?=some v→i<n∧v= .int (x+(i:Nat)):=by
 intro n
 induction n with
 | zero=>exact fun e=>nomatch e
 | succ n ih=>exact fun {i x v} e=>match i,e with
  | 0,e=>⟨L0 _,by injection e with e;refine wh e ?_;exact congrArg V.int (Int.add_zero x).symm⟩
  | i+1,e=>⟨T7 (ih e).1,by refine wg ((ih (i:=i) (x:=x+1) e).2) (wg (j0 ..) ?_);rewrite[Int.add_comm 1];rfl⟩
theorem it_rng {x:Int} {n:Nat} (hh:A.handled=none) (hT:Tg T):GS g A T [I] tt I (fun vs h ρ=>∃i,IsRangeIter h I (x+(i:Nat)) ((n:Int) - (i:Nat)) 1∧vs=(EU x n).drop i∧i≤(EU x n).length∧True):=
 it_mk hT (fun j=>⟨_,_,_,j,rfl,rfl,by decide⟩) (fun j hk=>hk _ j) (fun zz zz=>trivial)
  (fun {_ _ _ i _ _ _} S _ _ j e k=>by
   refine an2 (rngV_at e) fun hi hh1=>?_;obtain rfl:=hh1
   exact wpAny_pyNext_range_item j (Int.sub_pos_of_lt (K4.mpr hi)) fun h' j' hs=>k (by
    refine wg (show x+((i+1:Nat):Int)=x+(i:Nat)+1 from (j0 x i 1).symm) (wg (show (n:Int) - ((i+1:Nat):Int)=(n:Int) - (i:Nat) - 1 from (Int.sub_sub (n:Int) i 1).symm) ?_);exact j') (fun b o hb e=>BG hs e hb) ⟨_,rfl⟩)
  fun S zz zz j k=>wpAny_pyNext_range_end hh j (by refine wg rngV_len ?_;exact Int.le_of_eq (Int.sub_self _)) fun h' he=>k fun b o hb e=>he b o hb e
end
section
variable {g:Gl} {A:Around} {E:Value→Shared→Prop} {s:Shared} {ρ:Rho} {hp:Hp} {h h':Heap} {P:List Addr}
theorem EN {it d:Addr} {i ep:Nat} {es:Array DictEntry} {Q:Option Value→Shared→Prop} (hh:A.handled=none) (hit:s.heap.IsKeyIter it d i es.size ep) (hm:s.heap.get? d=some (HF es ep))
  (item:∀{en h'},es[i]?=some en→h'.IsKeyIter it d (i+1) es.size ep→K5 it s.heap h'→Q (some en.key) {s with heap:=h'}) (done:es[i]?=none→∀{h'},U3 it s.heap h'→Q none {s with heap:=h'}):wpAny g.m A (pyNext (.ref it)) Q E s:=by
 refine Bo (id hit) fun o ho hc hd=>?_
 have hT:=hit.typeIs
 have hdd:(HF es ep).data= .dict es ep:=rfl
 refine A1 (u7 (K8 (name:=C7 "__next__") hT c8
  (H9 c8 hT F.entry_dict_keyiterator_next ?_ (F.args_dict_keyiterator_next_1 _))))
 refine A1 (A5 (A1 (A1 ?_)))
 first | refine A1 (b4 hT (A5 ?_)) | refine A1 (j1 hT (A5 ?_))
 refine A1 (wpAny_fieldsOf ho hd ?_)
 refine wg (if_neg (by decide)) ?_
 show wpAny _ _ (if (Value.ref d==I5)=true then _ else _) _ _ s
 refine wg (if_neg (show ¬((Value.ref d==I5)=true) from D3)) ?_
 refine A1 (A5 (A1 (Y7 hm hdd ?_)))
 refine wg (if_neg (by rw[bne_self_eq_false];exact D3)) ?_
 refine A1 (A5 (A1 (wpAny_dictEpoch hm hdd ?_)))
 refine wg (if_neg (by rw[bne_self_eq_false];exact D3)) ?_
 refine A5 ?_
 show wpAny _ _ (match (if ((i:Int)<0) then none else es[(i:Int).toNat]?) with | some _=>_ | none=>_) _ _ s
 refine wg (if_neg (j9.mpr (C6 i))) (wg (N3 ..) ?_)
 cases hx:es[i]? with
 | some en=>
  refine A1 ?_
  first | refine A1 (b4 hT (A5 ?_)) | refine A1 (j1 hT (A5 ?_))
  refine A1 (wpAny_isOneOf_keyiter hT ?_)
  refine A1 (O6 ho hd (by show 1<4;decide) ?_)
  have hit':(s.heap.update it (u8 (·.setIfInBounds 1 (rawInt ((i:Int)+1))))).IsKeyIter it d (i+1) es.size ep:=
   ⟨_,F4 _ ho (Obj.isFreed_of_fields (k8 hd _)),(Obj.cls_mapFields ..).trans hc,k8 hd _⟩
  refine A1 (D4 (A1 (wpAny_isOneOf_keyiter (s:={s with heap:=s.heap.update it (u8 (·.setIfInBounds 1 (rawInt ((i:Int)+1))))}) hit'.typeIs ?_)))
  exact A5 (A5 ⟨_,rfl,A5 (item hx hit' (C9 ..))⟩)
 | none=>
  refine A1 ?_
  first | refine A1 (b4 hT (A5 ?_)) | refine A1 (j1 hT (A5 ?_))
  show wpAny _ _ (setField (.ref it) 0 .none >>=_) _ _ s
  refine A1 (O6 ho hd (by show 0<4;decide) ?_)
  show wpAny _ _ (newExc (.type "StopIteration") [] >>=_) _ _ _
  refine A1 (m:=newExc _ _) ?_
  refine A1 (J0 ?_ (by size_fits))
  refine A1 (m:=firstArgMember _ _) (An (a:=I5) (by first | rfl | (simp only[firstArgMember];rfl)) ?_)
  refine J0 ?_ (by size_fits)
  refine A1 (wpAny_handled ?_)
  refine wg (show A.in1.handled=none from hh) ?_
  refine A1 (A5 (wpAny_throw ?_))
  refine A1 (W3 (T:="StopIteration") (b:=true) ⟨_,B0 _ rfl,rfl⟩ isSubtype_stop ?_)
  exact A5 (done hx (((C9 ..).extBut.push _).push _))
theorem it_key {T:Expr} {I D:Addr} {d:Nat} {l:List (V×V)} (hh:A.handled=none) (hT:Tg T):
  GS g A T [I] (fun hp=>hp.f d=some (.dict true l)) I (fun vs h ρ=>∃i,h.IsKeyIter I D i l.length l.length∧vs=(l.map (·.1)).drop i∧i≤(l.map (·.1)).length∧ρ.l[d]?=some D):=
 it_mk hT (fun x=>x.elim fun o w=>⟨o,_,_,w.1,w.2.1,w.2.2,by decide⟩) (fun x hk=>x.imp fun o w=>⟨hk o w.1,w.2⟩) (fun z K=>K.p z)
  (fun S hG z j e k=>dR S.1 z hG fun es n X=>by
   obtain rfl:=X.b rfl
   rw[X.z] at j
   refine EN hh j X.o (fun {en h'} hx j' hs=>?_) fun hx=>?_
   ·rw[G0] at e
    refine BD (I9.mp e) fun p e1 hh2=>?_;obtain rfl:=hh2
    refine xa14 (X.e.get e1) fun en' e2 zz e3 zz=>?_
    rw[D7,hx] at e2;cases e2
    exact k (by refine wg X.z ?_;exact j') (fun b o hb e=>BG hs e hb) e3
   ·have:=(B6.mp e).1
    rw[A4,X.z] at this
    exact fun {_} _=>absurd (P4.mp hx) (b7.mpr this))
  fun S hG z j k=>dR S.1 z hG fun es n X=>by
   obtain rfl:=X.b rfl
   rw[X.z,A4,X.z] at j
   exact EN hh j X.o (fun hx=>by rw[O0 (B2 _)] at hx;cases hx) fun zz zz he=>k fun b o hb e=>he b o hb e
theorem Cp {it l:Addr} {i:Nat} {items} {Q:Value→Shared→Prop} (hh:A.handled=none) (hit:s.heap.IsTupleIter it l i) (hl:s.heap.IsTuple l items)
  (item:∀{x h'},items[i]?=some x→h'.IsTupleIter it l (i+1)→K5 it s.heap h'→Q x {s with heap:=h'})
  (done:items[i]?=none→∀{h' e},U3 it s.heap h'→(∃o,h'.get? e=some o∧o.cls= .type "StopIteration")→E (.ref e) {s with heap:=h'}):wpAny g.m A (Builtin.SmallTypes.nextOf (.ref it)) Q E s:=by
 refine Bo (id hit) fun o ho hc hd=>?_
 refine Bo hl fun ol hol zz hh=>?_;clear hl;refine ex1 hh fun nl hdl=>?_;clear hh
 refine A1 (K8 (name:=C7 "__next__") hit.typeIs F.slot_tuple_iterator_next
  (H9 F.slot_tuple_iterator_next hit.typeIs F.entry_tuple_iterator_next ?_ (F.args_tuple_iterator_next_1 _)))
 show wpAny _ _ (field (.ref it) 0 >>=_) _ _ s
 refine A1 (V9 ho hd (x:= .ref l) rfl ?_)
 refine wg (if_neg (show ¬((Value.ref l==I5)=true) from D3)) ?_
 show wpAny _ _ (field (.ref it) 1 >>=_) _ _ s
 refine A1 (V9 ho hd (x:= .int i 0) rfl ?_)
 refine A1 (Q8 hol hdl ?_)
 show wpAny _ _ (match items[(i:Int).toNat]? with | some _=>_ | none=>_) _ _ s
 refine wg (N3 ..) ?_
 cases hx:items[i]? with
 | some x=>exact A1 (O6 ho hd (by show 1<2;decide) (A5 ⟨x,rfl,A5 (item hx ⟨_,F4 _ ho (Obj.isFreed_of_fields (k8 hd _)),(Obj.cls_mapFields ..).trans hc,k8 hd _⟩ (C9 ..))⟩))
 | none=>
  refine A1 (Q6 (A1 (O6 ho hd (by show 0<2;decide) ?_)))
  refine A1 (m:=newExc _ _) ?_
  refine A1 (J0 ?_ (by size_fits))
  refine A1 (m:=firstArgMember _ _) (An (a:=I5) (by first | rfl | (simp only[firstArgMember];rfl)) ?_)
  refine J0 ?_ (by size_fits)
  refine A1 (wpAny_handled ?_)
  first | refine wg (show A.in1.handled=none from hh) ?_ | rw[hh]
  refine A1 (A5 (wpAny_throw ?_))
  exact done hx (((C9 ..).extBut.push _).push _) ⟨_,B0 _ rfl,rfl⟩
theorem draws_tup (hh:A.handled=none) {it l:Addr} (hne:l≠it) {items:Array Value}:
  Draws g.prog g.w A it [it,l] items.size (fun i v=>items[i]?=some v) (fun i h=>h.IsTupleIter it l i∧h.IsTuple l items) where
 live:=fun zz zz st=>let ⟨o,ho,_⟩:=st.1;⟨o,ho⟩
 frame:=fun zz zz zz st hk=>⟨st.1.at fun o e=>hk it (.head _) o e,let ⟨o,ho,r⟩:=st.2;⟨o,hk l (.tail _ (.head _)) o ho,r⟩⟩
 item:=fun i s Q E hi st hQ=>Cp (g:=g) hh st.1 st.2 (fun {x h'} hx hit' hs=>hQ x h' s.toks hx ⟨hit',st.2.extBut hs.extBut hne⟩ hs) fun hx=>by rw[J2 hi] at hx;cases hx
 done:=fun s Q E st hE=>Cp (g:=g) hh st.1 st.2 (fun hx=>by rw[O0 (B2 _)] at hx;cases hx) fun zz h' e=>hE h' e
theorem it_enm {G:Hp→Prop} {l:List V} {J:Nat→Heap→Prop} {Z:Heap→Rho→Prop} {es:List Expr} {c} {p:Pos} {e it:Addr} (hei:e≠it) (jk:∀{i h h'},J i h→(∀o,h.get? it=some o→h'.get? it=some o)→J i h') (zk:∀{h ρ h' ρ'},Z h ρ→Bu h ρ h' ρ'→Z h' ρ')
  (D:∀{s ρ hp},RS g ρ hp s→G hp→Z s.heap ρ→e∈ρ.p→it∈ρ.p→∃us:Array Value,∃fp St,RVs s.heap ρ l us.toList∧Draws g.prog g.w A.in1 it fp us.size (fun i v=>us[i]?=some v) St∧e∉fp∧(∀i,J i s.heap→St i s.heap)∧∀i h',St i h'→J i h'):
  GS g A (.Tuple es c p) [e,it] G e (fun vs h ρ=>∃i:Nat,∃old,IsEnum h e it i old∧J i h∧vs=(enm l).drop i∧i≤l.length∧Z h ρ) where
 keep:=fun x K hk=>E9 (fun i=>E9 fun old w=>⟨hk _ (.head _) _ w.1,jk w.2.1 (hk it (.tail _ (.head _))),w.2.2.1,w.2.2.2.1,zk w.2.2.2.2 K⟩) x
 step:=fun {v vs s ρ hp E Q0 Q1} S hP hG y k=>by
  refine ex2 y fun i old w=>?_;clear y
  have he:=w.1
  have j:=w.2.1
  have e1:=w.2.2.1
  have hi:=w.2.2.2.1
  have z:=w.2.2.2.2
  clear w
  refine Dw (D S hG z (hP _ (.head _)) (hP _ (.tail _ (.head _)))) fun us fp St r D hh=>?_;refine an3 hh fun hef st st'=>?_;clear hh
  have hz:l.length=us.size:=by exact wg r.len (wg C3 rfl)
  have hm:(enm l).length=l.length:=W8
  have hlt:i<l.length:=P3 hi fun q=>by rw[q,←hm,List.drop_length] at e1;cases e1
  rw[J1 (hm.symm▸hlt)] at e1
  injection e1 with e1 e2
  refine wpAny_pyNext_enum_itemD D he (st i j) (hz▸hlt) hei hef fun x h' tk hx ho hs' hT hsz hk=>wpAny_letOwnedTupleGo_enum ho fun h2 he2 hs2=>?_
  have kk:∀b o,b∉[e,it]→s.heap.get? b=some o→h2.get? b=some o:=fun b o m g=>BG hs2 (hk b o (fun q=>m (q▸.head _)) (fun q=>m (q▸.tail _ (.head _))) g) fun q=>m (q▸.head _)
  refine an2 (S.1.chgs (P:=[e,it]) hP kk (by refine wg hs2.1 (wg hsz ?_);exact O9 _)) fun S' X=>?_
  refine BD (r.get (B4 hlt)) fun u w1 w2=>?_
  rw[D7,hx] at w1;cases w1
  have fr:=S.1.fresh
  refine k (s':={s with heap:=h2,toks:=tk+1}) ⟨S',S.2⟩ X ?_ ⟨i+1,x,he2,jk (st' _ _ hs') fun o g=>BG hs2 g hei.symm,e2,hlt,zk z (X.k hP)⟩
  refine wg e1 (wg (show (enm l)[i]'(hm.symm▸hlt)= .tup [.int i,l[i]] from List.getElem_mapIdx ..) ?_)
  exact ⟨_,#[.int i tk,x],rfl,⟨BG hs2 hT fun q=>fr.2 (q▸hP _ (.head _)),fr⟩,.cons ⟨_,rfl⟩ (.cons (w2.keep (X.k hP)) .nil)⟩
 done:=fun {s ρ hp E Q0 Q1} S hP hG y k=>by
  refine ex2 y fun i old w=>?_;clear y
  have he:=w.1
  have j:=w.2.1
  have e1:=w.2.2.1
  have hi:=w.2.2.2.1
  have z:=w.2.2.2.2
  clear w
  refine Dw (D S hG z (hP _ (.head _)) (hP _ (.tail _ (.head _)))) fun us fp St r D hh=>?_;refine an3 hh fun hef st st'=>?_;clear hh
  have hz:l.length=us.size:=by exact wg r.len (wg C3 rfl)
  obtain rfl:i=us.size:=L9 (hz▸hi) (by have:=AB.mp e1.symm;rw[show (enm l).length=l.length from W8,hz] at this;exact this)
  refine wpAny_size (wpAny_pyNext_enum_endD D he (st _ j) fun h' hx sz=>?_)
  refine an2 (S.1.chgs (P:=[e,it]) hP (fun b o m g=>hx b o (fun q=>m (q▸.tail _ (.head _))) g) sz) fun S' X=>?_
  exact k (s':={s with heap:=h'}) ⟨S',S.2⟩ X
theorem enm_tup {es:List Expr} {c} {p:Pos} {e it a:Addr} {l:List V} {us:Array Value} (hh:A.handled=none) (hei:e≠it):
  GS g A (.Tuple es c p) [e,it] tt e (fun vs h ρ=>∃i:Nat,∃old,IsEnum h e it i old∧h.IsTupleIter it a i∧vs=(enm l).drop i∧i≤l.length∧IsT h ρ l a us):=
 it_enm hei (fun x hk=>x.imp fun o w=>⟨hk o w.1,w.2⟩) (fun z K=>have q:=K.k z.x z.o;⟨q.2,q.1,z.r.keep K,z.z⟩) fun S zz z m1 m2=>
  ⟨us,[it,a],_,z.r,draws_tup (show A.in1.handled=none from hh) (fun q=>z.x.2 (by refine wg q ?_;exact m2)),fun m=>(C4.mp m).elim hei fun m=>z.x.2 (by refine wh (A8.mp m) ?_;exact m1),fun i j=>⟨j,BS z.o⟩,fun zz zz j=>j.1⟩
theorem enm_list {es:List Expr} {c} {p:Pos} {e it a:Addr} {d:Nat} {l:List V} (hh:A.handled=none) (hei:e≠it):
  GS g A (.Tuple es c p) [e,it] (fun hp=>hp.f d=some (.list l)) e (fun vs h ρ=>∃i:Nat,∃old,IsEnum h e it i old∧h.IsListIter it a i∧vs=(enm l).drop i∧i≤l.length∧ρ.l[d]?=some a):=
 it_enm hei (fun x hk=>x.imp fun o w=>⟨hk o w.1,w.2⟩) (fun z K=>K.p z) fun S hG z m1 m2=>by
  have nl:∀{b},b∈_→a≠b:=fun m q=>(S.1.pt _ m).1 (q▸B9 z)
  refine lR (k:=fun zz=>True) S.1 z (by refine wg hG ?_;unfold pL;trivial) fun l' us n e L zz=>?_
  rw[hG] at e;cases e
  exact ⟨us,[it,a],_,L.r,Draws.list (show A.in1.handled=none from hh) it a (nl m2) us,fun m=>(C4.mp m).elim hei fun m=>nl m1 (A8.mp m).symm,fun i j=>⟨j,Bm L.o⟩,fun zz zz j=>j.1⟩
end
structure Zp where
 z:Addr
 TI:Addr
 TO:Addr
 i:Addr
 j:Addr
 a:Addr
 b:Addr
@[reducible] noncomputable def Zp.own (Z:Zp):List Addr:=[Z.z,Z.TI,Z.TO,Z.i,Z.j]
structure ZP (Z:Zp):Prop where
 nd:Z.own.Nodup
 a:Z.a∉Z.own
 b:Z.b∉Z.own
structure ZS (h:Heap) (Z:Zp) (k:Nat):Prop where
 I:IsPair h Z.TI (.ref Z.i) (.ref Z.j)
 O:∃a b,IsPair h Z.TO a b
 i:h.IsTupleIter Z.i Z.a k
 j:h.IsTupleIter Z.j Z.b k
noncomputable def ZF (h:Heap) (Z:Zp) (T:Option Addr):Prop:=match T with
 | none=>h.get? Z.z=some (FO .none false Z.TI Z.TO)
 | some T=>∃b,h.get? Z.z=some (FO (rawInt T) b Z.TI Z.TO)∧∃o,h.get? T=some o
section
variable {g:Gl} {A:Around} {E:Value→Shared→Prop} {s:Shared} {ρ:Rho} {hp:Hp} {h h' h'':Heap} {P:List Addr} {Z:Zp} {k:Nat}
noncomputable def But (P:List Addr) (h h':Heap):Prop:=∀b o,b∉P→h.get? b=some o→h'.get? b=some o
theorem But.trans (x:But P h h') (y:But P h' h''):But P h h'':=fun b o m e=>y b o m (x b o m e)
theorem But.of {a:Addr} (x:U3 a h h') (m:a∈P):But P h h':=fun b o n e=>x b o (fun q=>n (q▸m)) e
theorem owned_out {z TI TO T:Addr} {b:Bool} {o:Obj} {Q:Bool→Shared→Prop} (hz:s.heap.get? z=some (FO (rawInt T) b TI TO)) (hT:s.heap.get? T=some o)
  (hQ:∀h',h'.get? z=some (FO (rawInt T) true TI TO)→K5 z s.heap h'→Q false {s with heap:=h'}):wpAny g.m A (j2 (.ref z)) Q E s:=by
 unfold j2
 refine A1 (V9 hz rfl (x:=rawInt T) rfl ?_)
 show wpAny _ _ (loadIfAlive (m4 (T:Int)) >>=_) _ _ _
 refine wg (N3 ..) ?_
 refine A1 ?_
 have hl:∀{Q':Option Obj→Shared→Prop},Q' (some o) s→wpAny g.m A (loadIfAlive T) Q' E s:=fun h Γ p hΓ=>by rw[←hT] at h;exact h
 refine hl (A1 (V9 hz rfl (x:= .bool b) rfl ?_))
 cases b with
 | true=>exact A5 (hQ s.heap hz (.refl ..))
 | false=>exact A1 (W9 hz (by show 1<5;decide) fun h' hz' hs'=>A5 (hQ h' hz' hs'))
theorem zip_step {xs ys:Array Value} {R:Value→Shared→Prop} {T:Option Addr} (hh:A.handled=none) (hz:ZP Z) (S:ZS s.heap Z k) (f0:ZF s.heap Z T) (q1:s.heap.IsTuple Z.a xs) (q2:s.heap.IsTuple Z.b ys)
  (item:∀{x y h' T'},xs[k]?=some x→ys[k]?=some y→ZS h' Z (k+1)→ZF h' Z (some T')→(T=none∧T'=s.heap.objs.size∧h'.get? Z.z=some (FO (rawInt s.heap.objs.size) false Z.TI Z.TO)∨T=some T')→IsPair h' s.heap.objs.size x y→h'.objs.size=s.heap.objs.size+1→But Z.own s.heap h'→R (.ref s.heap.objs.size) {s with heap:=h'})
  (done:xs[k]?=none∨ys[k]?=none→∀{h' e},But Z.own s.heap h'→(∃o,h'.get? e=some o∧o.cls= .type "StopIteration")→E (.ref e) {s with heap:=h'}):
  wpAny g.m A (m9.«zip.__next__» ⟨[.ref Z.z],[]⟩) (fun fin s'=>∃v,fin= .done (.ret v)∧R v s') E s:=by
 obtain ⟨z,TI,TO,i,j,a,b⟩:=Z
 obtain ⟨nd,ha,hb⟩:=hz
 obtain ⟨hI,⟨u,v,hO⟩,h1,h2⟩:=S
 simp only[Zp.own,O5,C4,List.not_mem_nil,or_false,not_or] at nd ha hb
 refine an5 nd fun hh0 hh1 hh2 nij zz=>?_;clear nd;refine an4 hh0 fun nzI nzO nzi nzj=>?_;clear hh0;refine an3 hh1 fun nIO nIi nIj=>?_;clear hh1;refine an2 hh2 fun nOi nOj=>?_;clear hh2
 obtain ⟨f,bb,hz,hf⟩:∃f bb,s.heap.get? z=some (FO f bb TI TO)∧(T=none∧f= .none∧bb=false∨∃T' o,T=some T'∧f=rawInt T'∧s.heap.get? T'=some o):=by
  cases T with
  | none=>exact ⟨_,_,f0,.inl ⟨rfl,rfl,rfl⟩⟩
  | some T=>refine BD f0 fun b h1 hh=>?_;clear f0;refine ex1 hh fun o h2=>?_;clear hh;exact ⟨_,_,h1,.inr ⟨T,o,rfl,rfl,h2⟩⟩
 show wpAny _ _ (field (.ref z) 2 >>=_) _ _ _
 refine A1 (V9 hz rfl (x:= .bool false) rfl ?_)
 refine A1 (V9 hz rfl (x:= .ref TI) rfl (A1 (Q8 hI rfl ?_)))
 rcases hf with ⟨rfl,rfl,rfl⟩ | ⟨T',o,rfl,rfl,hT⟩
 ·refine A1 ?_
  refine A1 (V9 hz rfl (x:= .none) rfl (A5 ?_))
  refine wg (if_pos rfl) ?_
  refine A1 (Q6 (A1 (V9 hz rfl (x:= .ref TO) rfl ?_)))
  refine A1 (W9 hz (by show 0<5;decide) fun h₁ hz₁ hs₁=>?_)
  replace hz₁:h₁.get? z=some (FO .ellipsis false TI TO):=hz₁
  refine A1 ?_
  simp only[List.zipIdx_cons,List.zipIdx_nil,Y4,o7]
  refine A1 (A1 (wpAny_onRaise ?_))
  refine A1 (Cp hh (h1.extBut hs₁.extBut (N6 nzi)) (q1.extBut hs₁.extBut ha.1) (fun {x h₂} hx h1₂ hs₂=>A5 ?_) fun hx {h₂ e} hs₂ he=>?_)
  ·have hO₂:IsPair h₂ TO u v:=BG hs₂ (BG hs₁ hO (N6 nzO)) nOi
   refine A1 (Q8 hO₂ rfl (A1 (wpAny_updateSeq_pair hO₂ fun h₃ hO₃ hs₃=>?_)))
   replace hO₃:IsPair h₃ TO x v:=hO₃
   refine A1 (Ak (A5 (A1 (A1 (wpAny_onRaise ?_)))))
   refine A1 (Cp hh (((h2.extBut hs₁.extBut (N6 nzj)).extBut hs₂.extBut (N6 nij)).extBut hs₃.extBut (N6 nOj))
    (((q2.extBut hs₁.extBut hb.1).extBut hs₂.extBut hb.2.2.2.1).extBut hs₃.extBut hb.2.2.1) (fun {y h₄} hy h2₄ hs₄=>A5 ?_) fun hy {h₄ e} hs₄ he=>?_)
   ·have hO₄:IsPair h₄ TO x v:=BG hs₄ hO₃ nOj
    refine A1 (Q8 hO₄ rfl (A1 (wpAny_updateSeq_pair hO₄ fun h₅ hO₅ hs₅=>?_)))
    replace hO₅:IsPair h₅ TO x y:=hO₅
    refine A1 (Ak (A5 (A5 (A1 (Q8 hO₅ rfl (A1 (o8 ?_)))))))
    have hsz:h₅.objs.size=s.heap.objs.size:=by exact wg hs₅.1 (wg hs₄.1 (wg hs₃.1 (wg hs₂.1 (wg hs₁.1 rfl))))
    have hz₅:h₅.get? z=some (FO .ellipsis false TI TO):=BG hs₅ (BG hs₄ (BG hs₃ (BG hs₂ hz₁ nzi) nzO) nzj) nzO
    have k₅:But [z,TI,TO,i,j] s.heap h₅:=(((But.of hs₁.extBut (.head _)).trans (.of hs₂.extBut (.tail _ (.tail _ (.tail _ (.head _)))))).trans ((But.of hs₃.extBut (.tail _ (.tail _ (.head _)))).trans (.of hs₄.extBut (.tail _ (.tail _ (.tail _ (.tail _ (.head _)))))))).trans (.of hs₅.extBut (.tail _ (.tail _ (.head _))))
    have hI₅:IsPair h₅ TI (.ref i) (.ref j):=BG hs₅ (BG hs₄ (BG hs₃ (BG hs₂ (BG hs₁ hI (N6 nzI)) nIi) nIO) nIj) nIO
    have h1₅:h₅.IsTupleIter i a (k+1):=((h1₂.extBut hs₃.extBut (N6 nOi)).extBut hs₄.extBut nij).extBut hs₅.extBut (N6 nOi)
    have h2₅:h₅.IsTupleIter j b (k+1):=h2₄.extBut hs₅.extBut (N6 nOj)
    have hlt:h₅.objs.size≠z:=J6 (G1 hz₅)
    refine A1 ?_
    refine A1 (W9 (BC _ _ hz₅) (by show 0<5;decide) fun h₇ hz₇ hs₇=>?_)
    refine W9 hz₇ (by show 1<5;decide) fun h₈ hz₈ hs₈=>?_
    have up:∀c o,c≠z→h₅.get? c=some o→h₈.get? c=some o:=fun c o c1 e=>BG hs₈ (BG hs₇ (BC c o e) c1) c1
    have hT₈:IsPair h₈ h₅.objs.size x y:=BG hs₈ (BG hs₇ (B0 _ rfl) hlt) hlt
    have k₈:But [z,TI,TO,i,j] s.heap h₈:=k₅.trans fun c o m e=>up c o (fun q=>m (q▸.head _)) e
    have hz8:h₈.objs.size=s.heap.objs.size+1:=by exact wg hs₈.1 (wg hs₇.1 (wg (H8 ..) (wg hsz rfl)))
    have S₈:ZS h₈ ⟨z,TI,TO,i,j,a,b⟩ (k+1):=⟨up _ _ (N6 nzI) hI₅,⟨x,y,up _ _ (N6 nzO) hO₅⟩,h1₅.at fun o e=>up _ o (N6 nzi) e,h2₅.at fun o e=>up _ o (N6 nzj) e⟩
    replace hz₈:h₈.get? z=some (FO (rawInt h₅.objs.size) false TI TO):=hz₈
    have F₈:ZF h₈ ⟨z,TI,TO,i,j,a,b⟩ (some h₅.objs.size):=⟨false,hz₈,_,hT₈⟩
    rw[hsz] at hT₈ F₈ hz₈
    refine A5 ⟨_,rfl,?_⟩
    refine wg hsz ?_
    exact item hx hy S₈ F₈ (.inl ⟨rfl,rfl,hz₈⟩) hT₈ hz8 k₈
   ·refine BD he fun oe hoe hce=>?_;clear he
    have hz₄:h₄.get? z=some (FO .ellipsis false TI TO):=hs₄ _ _ nzj (BG hs₃ (BG hs₂ hz₁ nzi) nzO)
    have hez:e≠z:=fun x=>by subst x;rw[hz₄] at hoe;cases hoe;exact absurd (Value.type.inj hce) (by decide)
    refine W9 hz₄ (by show 0<5;decide) fun h₅ zz hs₅=>done (.inr hy) (((But.of hs₁.extBut (.head _)).trans (.of hs₂.extBut (.tail _ (.tail _ (.tail _ (.head _)))))).trans (((But.of hs₃.extBut (.tail _ (.tail _ (.head _)))).trans (.of hs₄ (.tail _ (.tail _ (.tail _ (.tail _ (.head _))))))).trans (.of hs₅.extBut (.head _)))) ⟨oe,BG hs₅ hoe hez,hce⟩
  ·refine BD he fun oe hoe hce=>?_;clear he
   have hz₂:h₂.get? z=some (FO .ellipsis false TI TO):=hs₂ _ _ nzi hz₁
   have hez:e≠z:=fun x=>by subst x;rw[hz₂] at hoe;cases hoe;exact absurd (Value.type.inj hce) (by decide)
   refine W9 hz₂ (by show 0<5;decide) fun h₃ zz hs₃=>done (.inl hx) (((But.of hs₁.extBut (.head _)).trans (.of hs₂ (.tail _ (.tail _ (.tail _ (.head _)))))).trans (.of hs₃.extBut (.head _))) ⟨oe,BG hs₃ hoe hez,hce⟩
 ·refine A1 (owned_out hz hT fun h₁ hz₁ hs₁=>?_)
  refine A1 ?_
  refine wh b6 ?_
  simp only[Y4,o7]
  refine A1 (A1 (D4 ?_))
  have b1:=But.of (P:=[z,TI,TO,i,j]) hs₁.extBut (.head _)
  refine A1 (Cp hh (h1.extBut hs₁.extBut (N6 nzi)) (q1.extBut hs₁.extBut ha.1) (fun {x h₂} hx h1₂ hs₂=>A5 (A5 (A1 (A1 (D4 ?_))))) fun hx {h₂ e} hs₂ he=>done (.inl hx) (b1.trans (.of hs₂ (.tail _ (.tail _ (.tail _ (.head _)))))) he)
  have b2:=b1.trans (.of hs₂.extBut (.tail _ (.tail _ (.tail _ (.head _)))))
  refine A1 (Cp hh ((h2.extBut hs₁.extBut (N6 nzj)).extBut hs₂.extBut (N6 nij)) ((q2.extBut hs₁.extBut hb.1).extBut hs₂.extBut hb.2.2.2.1) (fun {y h₃} hy h2₃ hs₃=>A5 (A5 (A5 ?_)))
   fun hy {h₃ e} hs₃ he=>done (.inr hy) (b2.trans (.of hs₃ (.tail _ (.tail _ (.tail _ (.tail _ (.head _))))))) he)
  refine A1 (o8 (hsz:=fit (by show 2≤4096;decide)) ?_)
  have hsz:h₃.objs.size=s.heap.objs.size:=by exact wg hs₃.1 (wg hs₂.1 (wg hs₁.1 rfl))
  have b3:=b2.trans (.of hs₃.extBut (.tail _ (.tail _ (.tail _ (.tail _ (.head _))))))
  have kk:∀c o,c≠z→c≠i→c≠j→s.heap.get? c=some o→h₃.get? c=some o:=fun c o c1 c2 c3 e=>BG hs₃ (BG hs₂ (BG hs₁ e c1) c2) c3
  have key:h₃.get? T'≠none:=by
   by_cases c1:T'=z
   ·refine wg c1 (wg (BG hs₃ (BG hs₂ hz₁ nzi) nzj) ?_);exact nofun
   ·by_cases c2:T'=j
    ·refine BD h2₃ fun zz q zz=>?_;clear h2₃
     refine wg c2 (wg q ?_);exact nofun
    ·by_cases c3:T'=i
     ·refine BD h1₂ fun zz q zz=>?_;clear h1₂
      refine wg c3 (wg (BG hs₃ q nij) ?_);exact nofun
     ·refine wg (kk T' o c1 c3 c2 hT) ?_;exact nofun
  refine ex1 (Option.ne_none_iff_exists'.mp key) fun o' key=>?_
  have:=item (h':=h₃.push {cls:= .type "tuple",data:= .seq #[x,y]}) (T':=T') hx hy
   ⟨BC _ _ (kk _ _ (N6 nzI) nIi nIj hI),⟨u,v,BC _ _ (kk _ _ (N6 nzO) nOi nOj hO)⟩,(h1₂.extBut hs₃.extBut nij).at fun o e=>BC _ _ e,h2₃.at fun o e=>BC _ _ e⟩
   ⟨true,BC _ _ (BG hs₃ (BG hs₂ hz₁ nzi) nzj),o',BC _ _ key⟩ (.inr rfl) (by refine wh hsz ?_;exact B0 _ rfl) (by exact wg (H8 ..) (wg hsz rfl)) (b3.trans fun c o zz e=>BC _ _ e)
  rw[←hsz] at this
  exact A5 ⟨_,rfl,this⟩
theorem Eu {xs ys:Array Value} {Q:Option Value→Shared→Prop} {T:Option Addr} (hh:A.handled=none) (hz:ZP Z) (S:ZS s.heap Z k) (f0:ZF s.heap Z T) (q1:s.heap.IsTuple Z.a xs) (q2:s.heap.IsTuple Z.b ys)
  (item:∀{x y h' T'},xs[k]?=some x→ys[k]?=some y→ZS h' Z (k+1)→ZF h' Z (some T')→(T=none∧T'=s.heap.objs.size∧h'.get? Z.z=some (FO (rawInt s.heap.objs.size) false Z.TI Z.TO)∨T=some T')→IsPair h' s.heap.objs.size x y→h'.objs.size=s.heap.objs.size+1→But Z.own s.heap h'→Q (some (.ref s.heap.objs.size)) {s with heap:=h'})
  (done:xs[k]?=none∨ys[k]?=none→∀{h'},But Z.own s.heap h'→Q none {s with heap:=h'}):wpAny g.m A (pyNext (.ref Z.z)) Q E s:=by
 have hT:s.TypeIs (.ref Z.z) "zip":=by
  cases T with
  | none=>exact ⟨_,f0,rfl⟩
  | some T=>refine BD f0 fun b h1 zz=>?_;clear f0;exact ⟨_,h1,rfl⟩
 refine A1 (u7 (K8 (name:=C7 "__next__") hT F.slot_zip_next
  (H9 F.slot_zip_next hT F.entry_zip_next (zip_step (R:=fun v s=>wpAny g.m A (pure (some v)) Q E s) hh hz S f0 q1 q2 (fun a b c d e f g h=>A5 (item a b c d e f g h)) fun he {h' e} hk ho=>?_) (F.args_zip_next_1 _))))
 obtain ⟨o,ho,hc⟩:=ho
 exact A1 (W3 (T:="StopIteration") (b:=true) ⟨o,ho,hc⟩ isSubtype_stop (A5 (done he hk)))
theorem EO {l r:List V}:(Co l r).length=min l.length r.length:=List.length_zipWith
theorem zip_at {l r:List V} (hk:k<(Co l r).length):∃x y,l[k]?=some x∧r[k]?=some y∧(Co l r)[k]= .tup [x,y]:=by
 have:=EO▸hk
 exact ⟨_,_,B4 (A9 this (R9 ..)),B4 (A9 this (t8 ..)),List.getElem_zipWith ..⟩
theorem zip_pair {l r:List V} {us us':Array Value} {x y:Value} {hk:k<(Co l r).length} (r1:RVs s.heap ρ l us.toList) (r2:RVs s.heap ρ r us'.toList) (hx:us[k]?=some x) (hy:us'[k]?=some y) (K:Bu s.heap ρ h' ρ) (ho:IsPair h' s.heap.objs.size x y) (hn:ρ.ni s.heap.objs.size):RV h' ρ (Co l r)[k] (.ref s.heap.objs.size):=by
 refine CE (zip_at hk) fun a b e1 e2 e3=>?_
 refine BD (r1.get e1) fun u w1 w2=>?_
 refine BD (r2.get e2) fun u' w3 w4=>?_
 rw[D7,hx] at w1;cases w1
 rw[D7,hy] at w3;cases w3
 refine wg e3 ?_
 exact ⟨_,#[x,y],rfl,⟨ho,hn⟩,.cons (w2.keep K) (.cons (w4.keep K) .nil)⟩
theorem it_zip {l r:List V} {us us':Array Value} {es:List Expr} {c} {p:Pos} (hh:A.handled=none) (hz:ZP Z):
  GS g A (.Tuple es c p) Z.own tt Z.z (fun vs h ρ=>∃k,ZS h Z k∧ZF h Z none∧vs=(Co l r).drop k∧k≤(Co l r).length∧IsT h ρ l Z.a us∧IsT h ρ r Z.b us') where
 keep:=fun {vs h ρ h' ρ'} x K kp=>by
  have t:∀{l:List V} {a:Addr} {us:Array Value},IsT h ρ l a us→IsT h' ρ' l a us:=fun t=>have q:=K.k t.x t.o;⟨q.2,q.1,t.r.keep K,t.z⟩
  exact E9 (fun k w=>⟨⟨kp _ (.tail _ (.head _)) _ w.1.I,w.1.O.imp fun zz z=>z.imp fun zz z=>kp _ (.tail _ (.tail _ (.head _))) _ z,w.1.i.at fun o e=>kp _ (.tail _ (.tail _ (.tail _ (.head _)))) o e,w.1.j.at fun o e=>kp _ (.tail _ (.tail _ (.tail _ (.tail _ (.head _))))) o e⟩,kp _ (.head _) _ w.2.1,w.2.2.1,w.2.2.2.1,t w.2.2.2.2.1,t w.2.2.2.2.2⟩) x
 step:=fun {v vs s ρ hp E Q0 Q1} S hP _ x c=>by
  refine ex1 x fun k w=>?_;clear x
  have S1:=w.1
  have f0:=w.2.1
  have e:=w.2.2.1
  have hk:=w.2.2.2.1
  have t1:=w.2.2.2.2.1
  have t2:=w.2.2.2.2.2
  clear w
  have hlt:k<(Co l r).length:=P3 hk fun q=>by rw[q,List.drop_length] at e;cases e
  rw[J1 hlt] at e
  injection e with e1 e2
  refine Eu hh hz S1 f0 (BS t1.o) (BS t2.o) (fun {x y h' T'} hx hy S2 f1 ht ho hsz hk=>?_) fun hn=>?_
  ·rcases ht with ⟨_,_,hz2⟩ | ht
   ·refine wpAny_letOwnedTupleGo_zip hz2 fun h2 hz3 hs=>?_
    have kk:But Z.own s.heap h2:=hk.trans (.of hs.extBut (.head _))
    refine an2 (S.1.chgs hP kk (by refine wg hs.1 (wg hsz ?_);exact O9 _)) fun S' X=>?_
    have K:=X.k hP
    have fr:=S.1.fresh
    have q1:=K.k t1.x t1.o
    have q2:=K.k t2.x t2.o
    obtain ⟨I1,⟨a,b,I2⟩,I3,I4⟩:=S2
    have nd:=hz.nd
    have nz:∀{b},b∈[Z.TI,Z.TO,Z.i,Z.j]→b≠Z.z:=fun m q=>(O5.mp nd).1 (q▸m)
    refine c (s':={s with heap:=h2}) ⟨S',S.2⟩ X (e1▸zip_pair t1.r t2.r hx hy K (BG hs ho fun q=>fr.2 (by refine wg q ?_;exact hP _ (.head _))) fr)
     ⟨k+1,⟨BG hs I1 (nz (.head _)),⟨a,b,BG hs I2 (nz (.tail _ (.head _)))⟩,I3.extBut hs.extBut (nz (.tail _ (.tail _ (.head _)))),I4.extBut hs.extBut (nz (.tail _ (.tail _ (.tail _ (.head _)))))⟩,hz3,e2,hlt,⟨q1.2,q1.1,t1.r.keep K,t1.z⟩,⟨q2.2,q2.1,t2.r.keep K,t2.z⟩⟩
   ·cases ht
  ·have h2:=EO▸hlt
   rw[t1.z,t2.z] at h2
   exact fun {_} _=>absurd h2 (G4.mpr (hn.elim (fun h=>A3 (R9 ..) (P4.mp h)) fun h=>A3 (t8 ..) (P4.mp h)))
 done:=fun {s ρ hp E Q0 Q1} S hP _ x c=>by
  refine ex1 x fun k w=>?_;clear x
  have S1:=w.1
  have f0:=w.2.1
  have e:=w.2.2.1
  have hk:=w.2.2.2.1
  have t1:=w.2.2.2.2.1
  have t2:=w.2.2.2.2.2
  clear w
  obtain rfl:k=(Co l r).length:=L9 hk (AB.mp e.symm)
  refine wpAny_size (Eu hh hz S1 f0 (BS t1.o) (BS t2.o) (fun {x y h' T'} hx hy=>?_) fun hn {h'} hk sz=>?_)
  ·have h1:=(M7.mp hx).1
   have h2:=(M7.mp hy).1
   rw[←t1.z] at h1
   rw[←t2.z] at h2
   rw[EO] at h1 h2
   exact absurd (Nat.lt_min.mpr ⟨h1,h2⟩) (N9 _)
  ·refine an2 (S.1.chgs hP hk sz) fun S' X=>?_
   exact c (s':={s with heap:=h'}) ⟨S',S.2⟩ X
end
theorem rs_one {a b:Int}:m5 a b 1=((b - a).toNat:Int):=by
 refine wg (rangeSize_one ..) ?_
 by_cases h:a<b
 ·refine wg (if_pos h) ?_;exact (Int.toNat_of_nonneg (Int.sub_nonneg_of_le (Int.le_of_lt h))).symm
 ·refine wg (if_neg h) (wg (Int.toNat_of_nonpos (Int.sub_nonpos_of_le (j9.mp h))) ?_);rfl
structure Src (g:Gl) (T:Expr) (P:List Addr) (G:Hp→Prop) (I:Addr) (Rem:List V→Heap→Rho→Prop):Prop where
 ok:∀{A},A.handled=none→GS g A T P G I Rem
 self:∀{A vs s ρ E} {Q:Value→Shared→Prop},Rem vs s.heap ρ→Q (.ref I) s→wpAny g.m A (pyIter (.ref I)) Q E s
noncomputable def GT (g:Gl) (T:Expr) (ρ:Rho) (h:Heap) (K:KI) (Q:Value→Shared→Prop):Prop:=∀{vs G hp I P Rem ρ' s},K vs G hp→RS g ⟨ρ'.l,P++ρ'.p⟩ hp s→Ext [] ρ h ρ' s.heap→(∀a∈P,h.objs.size≤a)→Src g T P G I Rem→Rem vs s.heap ⟨ρ'.l,P++ρ'.p⟩→Q (.ref I) s
noncomputable def NI (g:Gl) (fd:Fd) (A:Around) (T e:Expr) (x:XI):Prop:=∀{s ρ lc hp K},RS g ρ hp s→RF g fd ρ lc s.heap→x lc hp K→∀{Q E},GT g T ρ s.heap K Q→wpAny g.m A (eval e fd.env) (fun u s1=>wpAny g.m A (pyIter u) Q E s1) E s
section
variable {g:Gl} {fd:Fd} {A:Around} {E:Value→Shared→Prop} {s:Shared} {ρ ρ':Rho} {hp:Hp} {h h':Heap} {P:List Addr} {K:KI} {Q:Value→Shared→Prop} {T:Expr} {vs:List V} {G:Hp→Prop} {v:V} {u:Value} {a:XE V} {e:Expr}
theorem GT.up (k:GT g T ρ h K Q) (X:Ext [] ρ h ρ' h'):GT g T ρ' h' K Q:=fun q S X' n s r=>k q S (X.trans X') (fun a m=>A3 X.size (n a m)) s r
theorem GT.push {ob:Obj} {Rem} (k:GT g T ρ s.heap K Q) (S:RS g ρ hp s) (q:K vs G hp) (r:Bu s.heap ρ (s.heap.push ob) ⟨ρ.l,s.heap.objs.size::ρ.p⟩→Rem vs (s.heap.push ob) ⟨ρ.l,s.heap.objs.size::ρ.p⟩) (src:Src g T [s.heap.objs.size] G s.heap.objs.size Rem):
  Q (.ref s.heap.objs.size) {s with heap:=s.heap.push ob}:=by
 refine an3 (S.1.newP (a:=s.heap.objs.size) BC (Bd (o:=ob)) (B2 _) Cy) fun S1 K1 zz=>?_
 exact k (P:=[s.heap.objs.size]) (s:={s with heap:=s.heap.push ob}) q ⟨S1,S.2⟩ S.1.push.2 (fun b m=>B3 (A8.mp m).symm) src (r K1)
theorem IsL.up {ρ1:Rho} {l:List V} {b:Addr} {us:Array Value} {n:Nat} (L:IsL h ρ l b us n) (nb:ρ.ni b) (K:Bu h ρ h' ρ1):IsL h' ρ1 l b us n∧ρ1.ni b:=have q:=K.k nb L.o;⟨⟨q.2,L.r.keep K,L.z⟩,q.1⟩
theorem Fq {d:Addr} {es:Array DictEntry} {ep:Nat} (hd:(d==sysModules)=false) (ho:s.heap.get? d=some (HF es ep))
  (hQ:Q (.ref s.heap.objs.size) {s with heap:=s.heap.push {cls:= .type "dict_keyiterator",data:= .fields #[.ref d,.int 0 0,.int es.size 0,.int ep 0]}}):wpAny g.m A (pyIter (.ref d)) Q E s:=by
 have hT:s.TypeIs (.ref d) "dict":=⟨_,ho,rfl⟩
 refine wpAny_pyIter_slot hT F.slot_dict_iter (H9 F.slot_dict_iter hT F.entry_dict_iter ?_ (F.args_dict_iter_1 _))
 refine A1 ?_
 refine A1 (f6 hT ?_)
 show wpAny _ _ (pure (Value.ref d)) _ _ s
 refine A5 ?_
 show wpAny _ _ (Builtin.Dict.showsAll d >>=_) _ _ s
 unfold Builtin.Dict.showsAll
 refine wg (if_neg (by rw[hd];exact D3)) ?_
 exact A1 (A5 (A1 (Y7 ho rfl (A1 (wpAny_dictEpoch ho rfl (A1 (J0 (A5 ⟨_,rfl,"dict_keyiterator",_,⟨_,B0 _ rfl,rfl⟩,c8.lookup,hQ⟩))))))))
theorem iter_v (hT:Tg T) (S:RS g ρ hp s) (x:RV s.heap ρ v u) (q:GP v hp K) (k:GT g T ρ s.heap K Q):wpAny g.m A (pyIter u) Q E s:=by
 cases v with
 | tup l=>
  exact tR (C:=fun u=>wpAny _ _ (pyIter u) _ _ _) x fun a us X=>b5 (BS X.o) (k.push S q (fun K=>⟨0,⟨_,B0 _ rfl,rfl,rfl⟩,R1.symm,E2 _,(K.k X.x X.o).2,(K.k X.x X.o).1,X.r.keep K,X.z⟩)
   ⟨fun hh=>it_tup hh hT,fun r q=>r.elim fun zz j=>wpAny_pyIter_tupleiter j.1 q⟩)
 | str x0=>
  refine ex1 x fun t hh1=>?_;clear x;obtain rfl:=hh1
  exact wpAny_pyIter_ascii q.1 (k.push S q.2 (fun K=>⟨0,⟨_,B0 _ rfl,rfl,rfl⟩,R1.symm,E2 _,trivial⟩) ⟨fun hh=>it_str hh hT,fun r q=>r.elim fun zz j=>wpAny_pyIter_striter_ascii j.1 q⟩)
 | lst l=>
  refine Dw x fun b us n hh3 hh4 h3=>?_;clear x;obtain rfl:=hh3;refine an2 hh4 fun h1 h2=>?_;clear hh4
  exact o6 (Bm h1) (k.push S q (fun K=>⟨0,⟨_,B0 _ rfl,rfl,rfl⟩,R1.symm,E2 _,IsL.up ⟨h1,h3,by exact wg h3.len (wg C3 rfl)⟩ h2 K⟩)
   ⟨fun hh=>it_list (Z:=fun h ρ=>IsL h ρ l b us n∧ρ.ni b) hh hT (fun z K=>IsL.up z.1 z.2 K) fun zz zz z=>⟨_,_,z.1⟩,fun r q=>r.elim fun zz j=>wpAny_pyIter_listiter j.1 q⟩)
 | loc i=>
  refine BD x fun b hh1 e=>?_;clear x;obtain rfl:=hh1
  cases e':hp.f i with
  | none=>unfold GP pS at q;dsimp only at q;rw[e'] at q;exact q.elim
  | some o=>
   cases o with
   | list l=>
    replace q:K l (fun hp=>hp.f i=some (.list l)) hp:=by unfold GP pS at q;dsimp only at q;rw[e'] at q;exact q
    refine lR (k:=fun zz=>True) S.1 e (by refine wg e' ?_;unfold pL;trivial) fun l' us n e2 L zz=>?_
    rw[e'] at e2;cases e2
    exact o6 (Bm L.o) (k.push S q (fun K=>⟨0,⟨_,B0 _ rfl,rfl,rfl⟩,R1.symm,E2 _,e⟩)
     ⟨fun hh=>it_list (Z:=fun h ρ=>ρ.l[i]?=some b) hh hT (fun z K=>K.p z) fun S' hG z=>lR (k:=fun zz=>True) S'.1 z (by refine wg hG ?_;unfold pL;trivial) fun l' us n e2 L zz=>by rw[hG] at e2;cases e2;exact ⟨_,_,L⟩,fun r q=>r.elim fun zz j=>wpAny_pyIter_listiter j.1 q⟩)
   | dict t d=>
    cases t with
    | false=>unfold GP pS at q;dsimp only at q;rw[e'] at q;exact q.elim
    | true=>
     replace q:K (d.map (·.1)) (fun hp=>hp.f i=some (.dict true d)) hp:=by unfold GP pS at q;dsimp only at q;rw[e'] at q;exact q
     refine dR S.1 e e' fun es n D=>?_
     obtain rfl:=D.b rfl
     exact Fq (Es g S.1 e) D.o (k.push S q (fun K=>⟨0,⟨_,B0 _ rfl,rfl,by refine wg D.z ?_;rfl⟩,R1.symm,E2 _,e⟩) ⟨fun hh=>it_key hh hT,fun r q=>r.elim fun zz j=>wpAny_pyIter_keyiter j.1 q⟩)
   | _=>unfold GP pS at q;dsimp only at q;rw[e'] at q;exact q.elim
 | _=>exact q.elim
theorem n_src (hT:Tg T) (h:NV g fd A e a):NI g fd A T e (Bi a):=fun S F q zz zz k=>h S F q fun q S1 X1 r1=>iter_v hT S1 r1 q (k.up X1)
noncomputable def NFI (g:Gl) (A:Around) (T:Expr) (f:Value) (op:List V→Hp→KI→Prop):Prop:=∀{s ρ hp vs us K},RS g ρ hp s→RVs s.heap ρ vs us→op vs hp K→∀{Q E},GT g T ρ s.heap K Q→wpAny g.m A (call f us) (fun u s1=>wpAny g.m A (pyIter u) Q E s1) E s
theorem n_ibc {f:Value} {op:List V→Hp→KI→Prop} {x:Str} {p pos:Pos} {es:List Expr} {ms:List (XE V)} (h:NAr g fd A es ms) (hop:NFI g A T f op) (B:BOk g fd x f) (he:CA (.Name x p) es pos fd.env):NI g fd A T (.Call (.Name x p) es [] pos) (ibc op ms):=by
 intro s ρ lc hp K S F q Q E k
 refine wg he ?_
 exact A1 (B.name S F (DU h (keepM B.hf) S F q fun q S1 X1 r1=>⟨trivial,hop S1 r1 q (k.up X1)⟩))
theorem rng_it {a b:Int} {t t' t'':Tok} {r:Addr} (S:RS g ρ hp s) (hr:IsRange s.heap r a b 1 t t' t'') (ha:0≤a∧a≤4096) (hb:-4096≤b∧b≤4096) (q:K (EU a (b - a).toNat) tt hp) (hT:Tg T) (k:GT g T ρ s.heap K Q):wpAny g.m A (pyIter (.ref r)) Q E s:=by
 have hn:m5 a b 1=((b - a).toNat:Int):=rs_one
 refine wpAny_pyIter_range hr (small_one (N7 (by decide) ha.1) (W5 ha.2 (by decide)) (N7 (by decide) hb.1) (W5 hb.2 (by decide))) ?_
 refine wg hn ?_
 exact k.push S q (fun K=>⟨0,by refine wg Int.natCast_zero (wg (Int.add_zero ..) (wg (Int.sub_zero ..) ?_));exact B0 _ rfl,R1.symm,E2 _,trivial⟩) ⟨fun hh=>it_rng hh hT,fun r q=>r.elim fun zz j=>wpAny_pyIter_rangeiter j.1 q⟩
theorem rng_call {vs:List V} {us:List Value} {K:KI} (S:RS g ρ hp s) (r:RVs s.heap ρ vs us) (q:rngK vs hp K)
  (c:∀{a b:Int} {t t' t'':Tok} {s' o},s'={s with heap:=s.heap.push o,toks:=s'.toks}→IsRange s'.heap s.heap.objs.size a b 1 t t' t''→0≤a∧a≤4096→-4096≤b∧b≤4096→K (EU a (b - a).toNat) tt hp→Q (.ref s.heap.objs.size) s'):wpAny g.m A (call (.type "range") us) Q E s:=by
 match vs,us,r,q with
 | [v],us,r,q=>
  refine CE r fun u zz hh2 r1 r2=>?_;clear r;obtain rfl:=hh2
  cases show _=[] from r2
  exact iE (C:=fun u=>wpAny _ _ (call _ [u]) _ _ _) q r1 fun n t q=>call_range_1 (c rfl (IsRange.new ..) (by decide) q.1 (by refine wg (Int.sub_zero ..) ?_;exact q.2))
 | [v,w],us,r,q=>
  refine CE r fun u zz hh2 r1 r2=>?_;clear r;obtain rfl:=hh2
  obtain ⟨u',_,rfl,r2,r3⟩:=r2
  cases show _=[] from r3
  exact iE (C:=fun u=>wpAny _ _ (call _ [u,u']) _ _ _) q r1 fun a t q=>iE (C:=fun u=>wpAny _ _ (call _ [_,u]) _ _ _) q r2 fun b t' q=>call_range_2 (c rfl (IsRange.new ..) q.1.1 q.1.2 q.2)
 | [],_,_,q=>exact q.elim
 | _::_::_::_,_,_,q=>exact q.elim
theorem f_rng (hT:Tg T):NFI g A T (.type "range") rngK:=by
 intro s ρ hp vs us K S r q Q E k
 refine rng_call S r q fun {a b t t' t'' s2 o} e hr ha hb q=>?_
 refine an2 (S.1.push (o:=o)) fun S2 X2=>?_
 rw[e] at hr ⊢
 exact rng_it (s:={s with heap:=s.heap.push o,toks:=s2.toks}) ⟨S2,S.2⟩ hr ha hb q hT (k.up X2)
end
section
variable {g:Gl} {A:Around} {E:Value→Shared→Prop} {s:Shared} {ρ:Rho} {hp:Hp} {h h':Heap} {P:List Addr} {K:KI} {Q:Value→Shared→Prop} {T:Expr} {vs:List V} {G:Hp→Prop}
theorem RH.newPs (S:RH g ρ hp h) (hk:∀b o,h.get? b=some o→h'.get? b=some o) (sz:h.objs.size≤h'.objs.size) (hP:∀a∈P,h.objs.size≤a∧a<h'.objs.size):RH g ⟨ρ.l,P++ρ.p⟩ hp h'∧Bu h ρ h' ⟨ρ.l,P++ρ.p⟩:=by
 have K:Bu h ρ h' ⟨ρ.l,P++ρ.p⟩:=⟨fun n e=>⟨⟨n.1,fun m=>(C5.mp m).elim (fun m=>G4.mpr (hP _ m).1 (G1 e)) n.2⟩,hk _ _ e⟩,id⟩
 exact ⟨⟨S.len,S.nodup,fun i o e=>(S.objs i o e).imp fun b w=>⟨w.1,w.2.keep K (hk b)⟩,fun b m=>⟨(S.nt b m).1,A9 (S.nt b m).2 sz⟩,
  fun b m=>(C5.mp m).elim (fun m=>⟨fun m'=>G4.mpr (hP _ m).1 (S.nt _ m').2,A3 S.size (hP _ m).1,(hP _ m).2⟩) fun m=>have q:=S.pt b m;⟨q.1,q.2.1,A9 q.2.2 sz⟩,fun b o e=>hk b o (S.base b o e),A3 S.size sz⟩,K⟩
theorem GT.news {I:Addr} {Rem} (k:GT g T ρ s.heap K Q) (S:RS g ρ hp s) (q:K vs G hp) (hk:∀b o,s.heap.get? b=some o→h'.get? b=some o) (sz:s.heap.objs.size≤h'.objs.size) (hP:∀a∈P,s.heap.objs.size≤a∧a<h'.objs.size)
  (r:Bu s.heap ρ h' ⟨ρ.l,P++ρ.p⟩→Rem vs h' ⟨ρ.l,P++ρ.p⟩) (src:Src g T P G I Rem):Q (.ref I) {s with heap:=h'}:=by
 refine an2 (S.1.newPs hk sz hP) fun S1 K1=>?_
 exact k (s:={s with heap:=h'}) q ⟨S1,S.2⟩ (S.1.same hk sz).2 (fun a m=>(hP a m).1) src (r K1)
theorem IsT.up {ρ1:Rho} {l:List V} {b:Addr} {us:Array Value} (L:IsT h ρ l b us) (K:Bu h ρ h' ρ1):IsT h' ρ1 l b us:=have q:=K.k L.x L.o;⟨q.2,q.1,L.r.keep K,L.z⟩
theorem f_enm {es:List Expr} {c} {p:Pos}:NFI g A (.Tuple es c p) (.type "enumerate") enmK:=by
 intro s ρ hp vs us K S r q Q E k
 refine e1 (C:=fun us=>wpAny _ _ (call _ us) _ _ _) q r fun v u r1 q=>?_
 have n1:(s.heap.push (lstI 0)).objs.size=s.heap.objs.size+1:=H8 ..
 have fresh:∀{a b:Obj} {x:Addr},x∈[(s.heap.push a).objs.size,s.heap.objs.size]→s.heap.objs.size≤x∧x<((s.heap.push a).push b).objs.size:=fun {a b x} m=>by
  refine wg (H8 ..) (wg (H8 ..) ?_)
  rcases C4.mp m with rfl | m
  ·refine wg (H8 ..) ?_;exact ⟨O9 _,G7 _⟩
  ·refine wg (A8.mp m) ?_;exact ⟨B2 _,M5 (G7 _)⟩
 cases v with
 | tup l=>
  refine tR (C:=fun u=>wpAny _ _ (call _ [u]) _ _ _) r1 fun a us X=>callType_new F.called_enumerate (by decide) (F.typeCall_enumerate_1 _) (F.newCall_enumerate_1 _) (fun obj=>z5 obj _) F.entry_enumerate_new (Hd a us) ⟨X.o,⟨_,B0 _ rfl,rfl⟩,?_⟩
  exact o9 (B0 _ rfl) (k.news S q (fun b o e=>BC _ _ (BC _ _ e)) (A3 Bd Bd) (fun zz=>fresh)
   (fun K=>⟨0,_,B0 _ rfl,⟨_,BC _ _ (B0 _ rfl),rfl,rfl⟩,R1.symm,E2 _,X.up K⟩) ⟨fun hh=>enm_tup hh (J6 Cy),fun r q=>by refine CU r fun zz zz h zz=>?_;clear r;exact o9 h q⟩)
 | loc i=>
  refine BD r1 fun b hh1 e=>?_;clear r1;obtain rfl:=hh1
  refine lR S.1 e q fun l us n e2 L q=>callType_new F.called_enumerate (by decide) (F.typeCall_enumerate_1 _) (F.newCall_enumerate_1 _) (fun obj=>z5 obj _) F.entry_enumerate_new (meets_enumerate_new b us n) ⟨L.o,⟨_,B0 _ rfl,rfl⟩,?_⟩
  exact o9 (B0 _ rfl) (k.news S q (fun b o e=>BC _ _ (BC _ _ e)) (A3 Bd Bd) (fun zz=>fresh)
   (fun K=>⟨0,_,B0 _ rfl,⟨_,BC _ _ (B0 _ rfl),rfl,rfl⟩,R1.symm,E2 _,e⟩) ⟨fun hh=>enm_list hh (J6 Cy),fun r q=>by refine CU r fun zz zz h zz=>?_;clear r;exact o9 h q⟩)
 | _=>exact q.elim
theorem five {n x:Nat} (m:x∈[n+4,n+2,n+3,n,n+1]):n≤x∧x<n+5:=by
 refine BD (B5.mp (show x∈[4,2,3,0,1].map (n+·) from m)) fun k hk hh2=>?_;obtain rfl:=hh2
 exact ⟨C0 _ _,i5 ((by decide:∀k∈[4,2,3,0,1],k<5) k hk) n⟩
theorem five_nd {n:Nat}:[n+4,n+2,n+3,n,n+1].Nodup:=
 show ([4,2,3,0,1].map (n+·)).Nodup from List.Pairwise.map _ (fun zz zz h q=>h (Nat.add_left_cancel q)) (by decide:[4,2,3,0,1].Nodup)
theorem zip_call {a b:Addr} {us us':Array Value} (q1:s.heap.IsTuple a us) (q2:s.heap.IsTuple b us')
  (h:∀{h' n},n=s.heap.objs.size→h'.objs.size=n+5→(∀b o,s.heap.get? b=some o→h'.get? b=some o)→ZP ⟨n+4,n+2,n+3,n,n+1,a,b⟩→ZS h' ⟨n+4,n+2,n+3,n,n+1,a,b⟩ 0→ZF h' ⟨n+4,n+2,n+3,n,n+1,a,b⟩ none→Q (.ref (n+4)) {s with heap:=h'}):
  wpAny g.m A (call (.type "zip") [.ref a,.ref b]) Q E s:=by
 refine callType_new F.called_zip (by decide) (F.typeCall_zip_2 _ _) (F.newCall_zip_2 _ _) (fun obj=>F.args_object_init_3 obj _ _) F.entry_zip_new (zip_new_tup a b us us') ⟨q1,q2,⟨_,B0 _ rfl,rfl⟩,?_⟩
 have lt:∀{x},(∃o,s.heap.get? x=some o)→x<s.heap.objs.size:=fun x=>x.elim fun zz e=>G1 e
 have la:=lt (q1.imp fun zz q=>q.1)
 have lb:=lt (q2.imp fun zz q=>q.1)
 have z1:(s.heap.push (tupI a)).objs.size=s.heap.objs.size+1:=H8 ..
 have z2:(zh2 s.heap a b).objs.size=s.heap.objs.size+2:=by exact wg (H8 ..) (wg z1 rfl)
 have z3:(zh3 s.heap a b).objs.size=s.heap.objs.size+3:=by exact wg (H8 ..) (wg z2 rfl)
 have z4:(zh4 s.heap a b).objs.size=s.heap.objs.size+4:=by exact wg (H8 ..) (wg z3 rfl)
 have g5:(zh5 s.heap a b).get? (zh4 s.heap a b).objs.size=some _:=B0 _ rfl
 have g4:(zh5 s.heap a b).get? (zh3 s.heap a b).objs.size=some _:=BC _ _ (B0 _ rfl)
 have g3:(zh5 s.heap a b).get? (zh2 s.heap a b).objs.size=some _:=BC _ _ (BC _ _ (B0 _ rfl))
 have g2:(zh5 s.heap a b).get? (s.heap.push (tupI a)).objs.size=some _:=BC _ _ (BC _ _ (BC _ _ (B0 _ rfl)))
 rw[z2,z3,z4] at g5
 rw[z1,z2] at g3
 rw[z3] at g4
 rw[z1] at g2
 refine wg z4 ?_
 have out:∀{x},x<s.heap.objs.size→x∉[s.heap.objs.size+4,s.heap.objs.size+2,s.heap.objs.size+3,s.heap.objs.size,s.heap.objs.size+1]:=fun l m=>G4.mpr (five m).1 l
 exact h rfl (by exact wg (H8 ..) (wg z4 rfl)) (fun b o e=>BC _ _ (BC _ _ (BC _ _ (BC _ _ (BC _ _ e))))) ⟨five_nd,out la,out lb⟩
  ⟨g3,⟨_,_,g4⟩,⟨_,BC _ _ (BC _ _ (BC _ _ (BC _ _ (B0 _ rfl)))),rfl,rfl⟩,⟨_,g2,rfl,rfl⟩⟩ g5
theorem Eg {Z:Zp} {T:Option Addr} (h:ZF s.heap Z T) (hQ:Q (.ref Z.z) s):wpAny g.m A (pyIter (.ref Z.z)) Q E s:=by
 have hT:s.TypeIs (.ref Z.z) "zip":=by
  cases T with
  | none=>exact ⟨_,h,rfl⟩
  | some T=>refine BD h fun b h1 zz=>?_;clear h;exact ⟨_,h1,rfl⟩
 refine wpAny_pyIter_slot hT F.slot_zip_iter (H9 F.slot_zip_iter hT F.entry_zip_iter ?_ (F.args_zip_iter_1 _))
 exact A5 ⟨_,rfl,"zip",_,hT,F.slot_zip_next.lookup,hQ⟩
theorem f_zip {es:List Expr} {c} {p:Pos}:NFI g A (.Tuple es c p) (.type "zip") zipK:=by
 intro s ρ hp vs us K S r q Q E k
 refine e2 (C:=fun us=>wpAny _ _ (call _ us) _ _ _) q r fun v w u u' r1 r2 q=>tE (C:=fun u=>wpAny _ _ (call _ [u,_]) _ _ _) q r1 fun l a us q X=>tE (C:=fun u=>wpAny _ _ (call _ [_,u]) _ _ _) q r2 fun r b us' q Y=>zip_call (BS X.o) (BS Y.o) fun {h' n} hn sz hk P S1 f0=>?_
 refine Eg f0 (k.news (P:=(Zp.mk (n+4) (n+2) (n+3) n (n+1) a b).own) S q hk (by refine wg sz (wh hn ?_);exact C0 n 5) (fun x m=>?_) (fun K=>⟨0,S1,f0,R1.symm,E2 _,X.up K,Y.up K⟩) ⟨fun hh=>it_zip hh P,fun r q=>by refine Bo r fun zz zz h zz=>?_;clear r;exact Eg h q⟩)
 refine wg sz (wh hn ?_)
 exact five m
end
section
variable {g:Gl} {fd:Fd} {A:Around} {E:Value→Shared→Prop} {s:Shared} {ρ ρ' ρ'':Rho} {hp:Hp} {h h' h'':Heap} {own P p:List Addr} {K:KI} {T e t:Expr} {lc:Lc} {l:List Addr}
theorem Ext.re (x:Ext own ρ h ρ' h'):Ext own ⟨ρ.l,p⟩ h ⟨ρ'.l,p⟩ h':=⟨x.pre,rfl,x.size,x.keep⟩
theorem Ext.transP (x:Ext own ρ h ρ' h') (y:Ext P ρ' h' ρ'' h'') (hP:∀a∈P,a∈own∨h.objs.size≤a):Ext own ρ h ρ'' h'':=by
 refine BD x.pre fun t e ht=>?_
 refine BD y.pre fun t' e' ht'=>?_
 exact ⟨⟨t++t',by exact wg e' (wg e (wg (E5 ..) rfl)),fun a m=>(C5.mp m).elim (ht a) fun m=>A3 x.size (ht' a m)⟩,y.p.trans x.p,A3 x.size y.size,
  fun b o e h1 h2=>y.keep b o (x.keep b o e h1 h2) (x.nin (G1 e) h1) fun m=>(hP _ m).elim h2 fun q=>G4.mpr q (G1 e)⟩
theorem RH.sub (S:RH g ⟨l,P⟩ hp h) (hs:∀a∈p,a∈P):RH g ⟨l,p⟩ hp h∧Bu h ⟨l,P⟩ h ⟨l,p⟩:=
 have K:Bu h ⟨l,P⟩ h ⟨l,p⟩:=⟨fun n e=>⟨⟨n.1,fun m=>n.2 (hs _ m)⟩,e⟩,id⟩
 ⟨⟨S.len,S.nodup,fun i o e=>(S.objs i o e).imp fun b w=>⟨w.1,w.2.keep K fun zz e=>e⟩,S.nt,fun b m=>S.pt b (hs b m),S.base,S.size⟩,K⟩
theorem RH.dropP (S:RH g ⟨l,P++p⟩ hp h):RH g ⟨l,p⟩ hp h∧Bu h ⟨l,P++p⟩ h ⟨l,p⟩:=S.sub fun zz m=>B8 _ m
theorem RF.addP (F:RF g fd ρ lc h) (S:RH g ρ hp h) (X:Ext [] ρ h ρ' h') (hP:∀a∈P,h.objs.size≤a):RF g fd ⟨ρ'.l,P++ρ'.p⟩ lc h':=
 F.mono ⟨fun n e=>have q:=X.k0.k n e;⟨⟨q.1.1,fun m=>(C5.mp m).elim (fun m=>G4.mpr (hP _ m) (G1 e)) q.1.2⟩,q.2⟩,X.k0.p⟩ (fun a m=>B8 _ (X.p▸m)) fun a m o e=>X.keep a o e (S.pt a m).1 nofun
theorem s_for {i:Expr} {body:List Stmt} {pos:Pos} {x:XI} {y:XT} {m:XS} (hh:A.handled=none) (hi:NI g fd A T i x) (ht:NA g fd A (assign T fd.env) y) (hb:NS g fd A (execs body fd.env) m) (hs:∀x,foldedSetIterable i fd.env x=pure x):
  NS g fd A (exec (.For T i body [] pos) fd.env) (Ck x y m):=by
 intro s ρ lc hp N R S F q Q E k kr
 refine wpAny_For (hi S F q fun {vs G hp1 I P Rem ρ1 s1} q S1 X1 hP src r1=>?_) hs
 have O:=src.ok hh
 refine codeAny_forLoop_any (fun n s'=>∃l lcc hpp vs,RS g ⟨l,P++ρ.p⟩ hpp s'∧RF g fd ⟨l,P++ρ.p⟩ lcc s'.heap∧Ext fd.own ρ s.heap ⟨l,ρ.p⟩ s'.heap∧Rem vs s'.heap ⟨l,P++ρ.p⟩∧xloop y m G N R vs lcc hpp∧n=vs.length) ?_ _
  ⟨ρ1.l,lc,hp1,vs,X1.p▸S1,X1.p▸F.addP S.1 X1 hP,X1.p▸X1.up,X1.p▸r1,q,rfl⟩
 rintro n s' ⟨l,lcc,hpp,vs,S',F',X',r',q,rfl⟩
 have inP:∀a∈P,a∈P++ρ.p:=fun a m=>D0 _ m
 have turn:∀{h2:Heap} {p:List Addr},Ext P ⟨l,P++ρ.p⟩ s'.heap ⟨l,P++ρ.p⟩ h2→(∀a∈ρ.p,a∈p)→(∀a∈p,a∈P++ρ.p)→RF g fd ⟨l,p⟩ lcc h2:=fun X2 h1 h2=>
  F'.mono0 (·∈ρ.p) ⟨fun n e=>have q:=(X2.k inP).k n e;⟨⟨q.1.1,fun m=>q.1.2 (h2 _ m)⟩,q.2⟩,(X2.k inP).p⟩ F.own (fun x c e=>(F.cells x c e).2.2.1) h1 fun a m o e=>X2.keep a o e (S'.1.pt a (B8 _ m)).1 fun m'=>G4.mpr (hP a m') (S.1.pt a m).2.2
 have XP:=fun {h2:Heap} (X2:Ext P ⟨l,P++ρ.p⟩ s'.heap ⟨l,P++ρ.p⟩ h2)=>X'.transP (X2.re (p:=ρ.p)) fun a m=>.inr (hP a m)
 cases vs with
 | nil=>
  refine O.done S' inP q.1 r' fun {s2} S2 X2=>wpAny_execs_nil ?_
  exact k q.2 ⟨S2.1.dropP.1,S2.2⟩ (turn X2 (fun zz m=>m) fun zz m=>B8 _ m) (XP X2)
 | cons v vs=>
  refine O.step S' inP q.1 r' fun {u s2} S2 X2 r2 R2=>ht S2 (turn X2 (fun zz m=>B8 _ m) fun zz m=>m) r2 q.2 fun {lc3 hp3 ρ3 s3} q S3 F3 X3=>?_
  obtain ⟨l3,p3⟩:=ρ3
  cases show p3=_ from X3.p
  have X13:=(XP X2).trans (X3.re (p:=ρ.p))
  have inO:∀a∈fd.own,a∈P++ρ.p:=fun a m=>B8 _ (F.own a m)
  have rem:∀{l4 l5:List Addr} {h4 h5:Heap} {hp4:Hp},RH g ⟨l4,P++ρ.p⟩ hp4 h4→Ext fd.own ⟨l4,P++ρ.p⟩ h4 ⟨l5,P++ρ.p⟩ h5→Rem vs h4 ⟨l4,P++ρ.p⟩→Rem vs h5 ⟨l5,P++ρ.p⟩:=fun S4 X4 r=>O.keep r (X4.k inO) fun a m o e=>
   X4.keep a o e (S4.pt a (inP a m)).1 fun m'=>G4.mpr (hP _ m) (S.1.pt _ (F.own _ m')).2.2
  refine hb S3 F3 q (fun {lc5 hp5 ρ5 s5} q S5 F5 X5=>?_) fun {v5 hp5 u5 ρ5 s5} q S5 X5 r5=>?_
  ·obtain ⟨l5,p5⟩:=ρ5
   cases show p5=_ from X5.p
   exact ⟨_,G7 _,l5,lc5,hp5,vs,S5,F5,X13.trans (X5.re (p:=ρ.p)),rem S3.1 X5 (rem S2.1 X3 R2),q,rfl⟩
  ·obtain ⟨l5,p5⟩:=ρ5
   cases show p5=_ from X5.p
   exact kr q ⟨S5.1.dropP.1,S5.2⟩ (X13.trans (X5.re (p:=ρ.p))) (r5.keep S5.1.dropP.2)
theorem s_while {body:List Stmt} {pos:Pos} {c:XE Bool} {m:XS} (hc:NB g fd A t c) (hb:NS g fd A (execs body fd.env) m):NS g fd A (exec (.While t body [] pos) fd.env) (FR c m):=by
 intro s ρ lc hp N R S F ⟨n,q⟩ Q E k kr
 refine wpAny_While (codeAny_whileLoop (fun n s'=>∃ρ' lcc hpp,RS g ρ' hpp s'∧RF g fd ρ' lcc s'.heap∧Ext fd.own ρ s.heap ρ' s'.heap∧xwh c m N R n lcc hpp) ?_ n ⟨ρ,lc,hp,S,F,.refl,q⟩)
 rintro n s' ⟨ρ',lcc,hpp,S',F',X',q⟩
 cases n with
 | zero=>exact q.elim
 | succ n=>
  refine hc S' F' q fun {b hp3 ρ3 s3} q S3 X3=>?_
  cases b with
  | true=>exact hb S3 (F'.ext S'.1 X3) (q.1 rfl) (fun q S5 F5 X5=>⟨n,G7 _,_,_,_,S5,F5,(X'.trans X3.up).trans X5,q⟩) fun q S5 X5 r5=>kr q S5 ((X'.trans X3.up).trans X5) r5
  | false=>exact wpAny_execs_nil (k (q.2 rfl) S3 (F'.ext S'.1 X3) (X'.trans X3.up))
end
structure Off (fd:Fd) (a:Addr):Prop where
 o:a∉fd.own
 c:∀x c,fd.env.cells.lookup x=some c→c≠a
noncomputable def Acc (h:Heap) (ρ:Rho) (D:Addr) (acc:List V):Prop:=∃us n,h.get? D=some (BL us n)∧RVs h ρ acc us.toList
@[reducible] noncomputable def testsOf (ifs:List Expr) (env:Env):Sem Bool:=forIn ifs true fun c r=>if r=true then do let ok ←isTrue c env (eval c env);pure (j5 ok) else pure (j5 r)
noncomputable def FinM (g:Gl) (fd:Fd) (ρ:Rho) (h:Heap) (D:Addr) (K:Lc→List V→Hp→Prop) (Q:Unit→Shared→Prop):Prop:=∀{lc acc hp ρ' s},K lc acc hp→RS g ρ' hp s→RF g fd ρ' lc s.heap→Acc s.heap ρ' D acc→Ext (D::fd.own) ρ h ρ' s.heap→Q () s
noncomputable def NM (g:Gl) (fd:Fd) (A:Around) (D:Addr) (t:Sem Unit) (m:XM):Prop:=∀{s ρ lc acc hp K},RS g ρ hp s→RF g fd ρ lc s.heap→D∈ρ.p→Off fd D→Acc s.heap ρ D acc→m lc acc hp K→∀{Q E},FinM g fd ρ s.heap D K Q→wpAny g.m A t Q E s
noncomputable def NIf (g:Gl) (fd:Fd) (A:Around) (ifs:List Expr) (f:XM→XM):Prop:=∀{m s ρ lc acc hp K},RS g ρ hp s→RF g fd ρ lc s.heap→f m lc acc hp K→∀{Q:Bool→Shared→Prop} {E},(∀{hp' ρ' s'},m lc acc hp' K→RS g ρ' hp' s'→Ext [] ρ s.heap ρ' s'.heap→Q true s')→(∀{hp' ρ' s'},K lc acc hp'→RS g ρ' hp' s'→Ext [] ρ s.heap ρ' s'.heap→Q false s')→wpAny g.m A (testsOf ifs fd.env) Q E s
noncomputable def HI (g:Gl) (A:Around) (env:Env) (T:Expr) (ifs:List Expr) (tail:Sem Unit) (I:Addr) (E:Value→Shared→Prop) (Q0 Q1:Shared→Prop) (s:Shared):Prop:=
 wpAny g.m A (pyNext (.ref I)) (fun r s1=>match r with
  | none=>Q0 s1
  | some v=>wpAny g.m A (letOwnedTupleGo T (.ref I) v) (fun zz s2=>wpAny g.m A (assign T env v) (fun zz s3=>wpAny g.m A (testsOf ifs env) (fun ok s4=>if ok=true then wpAny g.m A tail (fun zz s5=>Q1 s5) E s4 else Q1 s4) E s3) E s2) E s1) E s
section
variable {g:Gl} {fd:Fd} {A:Around} {s:Shared} {ρ ρ':Rho} {hp:Hp} {h h':Heap} {W P:List Addr} {T e elt c:Expr} {lc:Lc} {acc:List V} {D I:Addr} {a:XE V} {b:XE Bool} {v:V} {u:Value} {f:XM→XM} {m:XM} {t:XT} {ifs:List Expr} {tail:Sem Unit}
theorem RF.off (F:RF g fd ρ lc h) (S:RH g ρ hp h) (X:Ext W ρ h ρ' h') (hW:∀a∈W,Off fd a∧a∈ρ.p):RF g fd ρ' lc h':=
 F.mono0 (fun a=>a∈ρ.p∧a∉W) (X.k fun a m=>(hW a m).2) (fun a m=>⟨F.own a m,fun m'=>(hW a m').1.o m⟩) (fun x c e=>⟨(F.cells x c e).2.2.1,fun m'=>(hW c m').1.c x c e rfl⟩) (fun a q=>X.p▸q.1) fun a q o e=>X.keep a o e (S.pt a q.1).1 q.2
theorem Acc.keep (x:Acc h ρ D acc) (K:Bu h ρ h' ρ') (hk:∀o,h.get? D=some o→h'.get? D=some o):Acc h' ρ' D acc:=E9 (fun zz=>E9 fun zz w=>⟨hk _ w.1,w.2.keep K⟩) x
theorem Acc.ext (x:Acc h ρ D acc) (S:RH g ρ hp h) (hD:D∈ρ.p) (X:Ext W ρ h ρ' h') (hW:∀a∈W,a∈ρ.p∧a≠D):Acc h' ρ' D acc:=x.keep (X.k fun a m=>(hW a m).1) fun o e=>X.keep D o e (S.pt D hD).1 fun m=>(hW D m).2 rfl
theorem if_nil:NIf g fd A [] id:=fun S F q zz zz k zz=>wpAny_tests_nil (k q S .refl)
theorem if_one (h:NB g fd A c b):NIf g fd A [c] (DL b):=fun S F q zz zz k1 k0=>wpAny_tests_one (h S F q fun {b _ _ _} q S1 X1=>match b,q with
 | true,q=>k1 (q.1 rfl) S1 X1
 | false,q=>k0 (q.2 rfl) S1 X1)
theorem m_emit (h:NV g fd A elt a):NM g fd A D (do let _ ←call (.builtin "list.append") [.ref D,←eval elt fd.env]) (BY a):=by
 intro s ρ lc acc hp K S F hD oD L q Q E k
 refine A1 (h S F q fun {v hp1 u ρ1 s1} q S1 X1 r1=>A1 ?_)
 have hD1:D∈ρ1.p:=X1.p▸hD
 refine CU (L.ext S.1 hD X1 nofun) fun us n h1 h2=>?_
 have hz:acc.length=us.size:=by exact wg h2.len (wg C3 rfl)
 have hT:s1.TypeIs (.ref D) "list":=⟨_,h1,rfl⟩
 refine H9 slot_list_append hT entry_list_append ?_ (args_list_append _ _)
 show wpAny _ _ (updateSeq D (·.push u) >>=fun zz=>ret .none) _ _ s1
 refine A1 (V5 h1 rfl (A5 ⟨.none,rfl,?_⟩) (hz▸fit q.1))
 refine an2 (S1.1.chgP (h':=s1.heap.update D (G8 (·.push u))) hD1 (C9 ..)) fun S2 X2=>?_
 have K2:=X2.k fun a m=>A8.mp m▸hD1
 exact A5 (k (s:={s1 with heap:=_}) q.2 ⟨S2,S1.2⟩ ((F.ext S.1 X1).off S1.1 X2 fun a m=>A8.mp m▸⟨oD,hD1⟩) ⟨us.push u,_,F4 (G8 (·.push u)) h1 rfl,by refine wg U9 ?_;exact (h2.app (.cons r1 .nil)).keep K2⟩
  (X1.up.trans (X2.wider fun a m=>A8.mp m▸.head _)))
theorem c_loop {gens:List Comprehension} {scope:Scope} {pos:Pos} {d:Nat} {G:Hp→Prop} {Rem:List V→Heap→Rho→Prop} {vs:List V} {K:Lc→List V→Hp→Prop} (hh:A.handled=none) (src:Src g T P G I Rem)
  (hturn:∀{E Q s},HI g A fd.env T ifs tail I E (fun s=>Q (.done .next) s) (fun s=>Q (.again (.compLoop (.ListComp elt gens scope pos) d (.ref I) (.ref D) fd.env)) s) s→wpAny g.m A (compTurn (.ListComp elt gens scope pos) d (.ref I) (.ref D) fd.env) Q E s)
  (ht:NA g fd A (assign T fd.env) t) (hc:NIf g fd A ifs f) (hb:NM g fd A D tail m) (S:RS g ρ hp s) (F:RF g fd ρ lc s.heap) (hD:D∈ρ.p) (oD:Off fd D) (L:Acc s.heap ρ D acc) (hP:∀a∈P,a∈ρ.p∧Off fd a∧a≠D) (r:Rem vs s.heap ρ) (q:xcl t (f m) G K vs lc acc hp)
  {R:Result→Shared→Prop} (k:∀{lc acc hp ρ' s'},K lc acc hp→RS g ρ' hp s'→RF g fd ρ' lc s'.heap→Acc s'.heap ρ' D acc→Ext (P++D::fd.own) ρ s.heap ρ' s'.heap→R (.ok .next) s'):
  codeAny g.m A (.compLoop (.ListComp elt gens scope pos) d (.ref I) (.ref D) fd.env) R s:=by
 have O:=src.ok hh
 refine codeAny_loop rfl (fun n s'=>∃ρ' lcc hpp acc vs,RS g ρ' hpp s'∧RF g fd ρ' lcc s'.heap∧Ext (P++D::fd.own) ρ s.heap ρ' s'.heap∧Rem vs s'.heap ρ'∧Acc s'.heap ρ' D acc∧xcl t (f m) G K vs lcc acc hpp∧n=vs.length) ?_ _ ⟨ρ,lc,hp,acc,vs,S,F,.refl,r,L,q,rfl⟩
 rintro n s' ⟨ρ',lcc,hpp,acc,vs,S',F',X',r',L',q,rfl⟩
 show wpAny _ A ((compTurn (.ListComp elt gens scope pos) d (.ref I) (.ref D) fd.env).onRaise (fun x=>do noteFrame x fd.env;theTreesLotGoes x)) _ _ s'
 refine wpAny_noted (hturn ?_)
 have hp:=X'.p
 have inP:∀a∈P,a∈ρ'.p:=fun a m=>hp▸(hP a m).1
 have XP:∀{h2},Ext P ρ' s'.heap ρ' h2→Ext (P++D::fd.own) ρ s.heap ρ' h2:=fun X=>X'.trans (X.wider fun a m=>D0 _ m)
 have FP:∀{h2},Ext P ρ' s'.heap ρ' h2→RF g fd ρ' lcc h2:=fun X=>F'.off S'.1 X fun a m=>⟨(hP a m).2.1,inP a m⟩
 have LP:∀{h2},Ext P ρ' s'.heap ρ' h2→Acc h2 ρ' D acc:=fun X=>L'.ext S'.1 (hp▸hD) X fun a m=>⟨inP a m,(hP a m).2.2⟩
 cases vs with
 | nil=>exact O.done S' inP q.1 r' fun S2 X2=>k q.2 S2 (FP X2) (LP X2) (XP X2)
 | cons v vs=>
  refine O.step S' inP q.1 r' fun {u s2} S2 X2 r2 R2=>ht S2 (FP X2) r2 q.2 fun {lc3 hp3 ρ3 s3} q S3 F3 X3=>?_
  have inD:∀{ρ2:Rho},ρ2.p=ρ.p→∀a∈D::fd.own,a∈ρ2.p:=fun e a m=>e▸(C4.mp m).elim (fun q=>q▸hD) (F.own a)
  have rem:∀{ρ4 ρ5:Rho} {h4 h5:Heap} {hp4:Hp},RH g ρ4 hp4 h4→ρ4.p=ρ.p→Ext (D::fd.own) ρ4 h4 ρ5 h5→Rem vs h4 ρ4→Rem vs h5 ρ5:=fun S4 e X4 r=>O.keep r (X4.k (inD e)) fun a m o g=>
   X4.keep a o g (S4.pt a (e▸(hP a m).1)).1 fun m'=>(C4.mp m').elim (hP a m).2.2 (hP a m).2.1.o
  have X3':Ext (D::fd.own) ρ' s2.heap ρ3 s3.heap:=X3.wider fun a m=>.tail _ m
  have e3:ρ3.p=ρ.p:=X3.p.trans hp
  have R3:=rem S2.1 hp X3' R2
  have L3:Acc s3.heap ρ3 D acc:=(LP X2).ext S2.1 (hp▸hD) X3 fun a m=>⟨hp▸F.own a m,fun q=>oD.o (q▸m)⟩
  have X13:=(XP X2).trans (X3'.wider fun a m=>B8 _ m)
  refine hc S3 F3 q (fun {hp4 ρ4 s4} q S4 X4=>?_) fun {hp4 ρ4 s4} q S4 X4=>?_
  ·refine hb S4 (F3.ext S3.1 X4) (X4.p▸e3▸hD) oD (L3.ext S3.1 (e3▸hD) X4 nofun) q fun {lc5 acc5 hp5 ρ5 s5} q S5 F5 L5 X5=>?_
   exact ⟨rfl,_,G7 _,ρ5,lc5,hp5,acc5,vs,S5,F5,(X13.trans X4.up).trans (X5.wider fun a m=>B8 _ m),rem S4.1 (X4.p.trans e3) X5 (rem S3.1 e3 X4.up R3),L5,q,rfl⟩
  ·exact ⟨rfl,_,G7 _,ρ4,lc3,hp4,acc,vs,S4,F3.ext S3.1 X4,X13.trans X4.up,rem S3.1 e3 X4.up R3,L3.ext S3.1 (e3▸hD) X4 nofun,q,rfl⟩
end
noncomputable def Ownc (names:List (Str×NameKind)):Option Str→Prop
 | none=>(∀h,pushCells h names=h)∧∀n acc,cellsFrom n names acc=acc
 | some y=>(∀h,pushCells h names=h.push {cls:= .type "cell",data:= .cell none})∧∀n acc,cellsFrom n names acc=(y,n)::acc
noncomputable def FX (oc:Option Str) (n:Addr) (cl:List (Str×Addr)):List (Str×Addr):=match oc with
 | none=>cl
 | some y=>(y,n)::cl
noncomputable def oOwn (oc:Option Str) (n:Addr):List Addr:=match oc with
 | none=>[]
 | some _=>[n]
noncomputable def cEnv (env:Env) (scope:Scope) (cl:List (Str×Addr)) (oc:Option Str) (C:Addr):Env:=
 {scope:=relabel scope env,locals:=C,globals:=env.globals,cells:=FX oc (C+1) cl,qual:=env.qual,func:=none,code:=env.code,frame:=env.frame,builtins:=env.builtins}
noncomputable def fdC (fd:Fd) (scope:Scope) (cl:List (Str×Addr)) (oc:Option Str) (names:List Str) (C:Addr):Fd:=⟨cEnv fd.env scope cl oc C,names,C::oOwn oc (C+1)⟩
structure CompOk (fd:Fd) (scope:Scope) (cl:List (Str×Addr)) (oc:Option Str) (names:List Str) (nl:Nat) (caps:List Nat):Prop where
 own:Ownc scope.names oc
 kind:scope.kind= .function
 nd:names.Nodup
 clos:closureFor scope fd.env=pure cl
 sub:∀p∈cl,fd.env.cells.lookup p.1=some p.2
 loc:∀x∈scope.names,x.2= .local→scope.names.lookup x.1=some .local
 cap:∀(j i:Nat),caps[j]?=some i→∃x,names[nl+j]?=some x∧fd.names[i]?=some x∧fd.env.kindOf x=some .cell∧(relabel scope fd.env).names.lookup x=some .cell∧∀n,(FX oc n cl).lookup x=fd.env.cells.lookup x
theorem get_caps:∀{caps:List Nat} {lc:Lc} {j:Nat} {v:V},DM (HD lc caps) j=some v→∃i,caps[j]?=some i∧DM lc i=some v:=by
 intro caps
 induction caps with
 | nil=>exact fun e=>nomatch e
 | cons i r ih=>exact fun {lc j v} e=>match j,e with
  | 0,e=>⟨i,rfl,e⟩
  | j+1,e=>ih (j:=j) e
theorem get_nones:∀{k:Nat} {r:Lc} {j:Nat} {v:V},DM (nones k r) j=some v→∃i,j=k+i∧DM r i=some v:=by
 intro k
 induction k with
 | zero=>exact fun {r j v} e=>⟨j,(I0 j).symm,e⟩
 | succ k ih=>exact fun {r j v} e=>match j,e with
  | 0,e=>nomatch e
  | j+1,e=>(ih (j:=j) e).imp fun i w=>⟨by exact wg w.1 (wg (Nat.succ_add ..) rfl),w.2⟩
section
variable {g:Gl} {fd:Fd} {A:Around} {E:Value→Shared→Prop} {s:Shared} {ρ ρ':Rho} {hp:Hp} {h h':Heap} {P:List Addr} {scope:Scope} {cl:List (Str×Addr)} {oc:Option Str} {names:List Str} {nl:Nat} {caps:List Nat} {lc:Lc}
theorem newCompEnv (ho:Ownc scope.names oc) {Q:Env→Shared→Prop} (h:Q {cEnv fd.env scope cl oc s.heap.objs.size with scope:=scope} {s with heap:=pushCells (s.heap.push {cls:= .type "dict",data:= .dict #[]}) scope.names}):
  wpAny g.m A (newFunctionEnv scope fd.env.globals cl [] fd.env.qual none .none (some fd.env)) Q E s:=by
 simp only[newFunctionEnv,Option.isSome_some,if_true]
 refine A1 (wpAny_alloc ?_)
 refine A1 (wpAny_layCells _ (fun name kind cells=>by cases kind==NameKind.cell <;> simp) _ _ _ _ ?_)
 refine wg (show ({s with heap:=s.heap.push {cls:= .type "dict",data:= .dict #[]}}:Shared).heap.objs.size=s.heap.objs.size+1 from H8 ..) ?_
 refine A1 ?_
 refine wg o7 ?_
 refine A5 (A5 ?_)
 have e:cellsFrom (s.heap.objs.size+1) scope.names cl=FX oc (s.heap.objs.size+1) cl:=by
  cases oc with
  | none=>refine wg (ho.2 ..) ?_;rfl
  | some y=>refine wg (ho.2 ..) ?_;rfl
 refine wg e ?_
 exact h
theorem GU {α:Type} {x:Str} {c:α}:∀{l:List (Str×α)},l.lookup x=some c→(x,c)∈l:=fun e=>mem_of_lookup e
theorem compFrame (O:CompOk fd scope cl oc names nl caps) (S:RH g ρ hp h) (F:RF g fd ρ lc h) (eh:h'=pushCells (h.push {cls:= .type "dict",data:= .dict #[]}) scope.names):
  RH g ⟨ρ.l,(fdC fd scope cl oc names h.objs.size).own++ρ.p⟩ hp h'∧Ext [] ρ h ρ h'∧RF g (fdC fd scope cl oc names h.objs.size) ⟨ρ.l,(fdC fd scope cl oc names h.objs.size).own++ρ.p⟩ (nones nl (HD lc caps)) h'∧(∀a∈(fdC fd scope cl oc names h.objs.size).own,h.objs.size≤a)∧∀x c,(fdC fd scope cl oc names h.objs.size).env.cells.lookup x=some c→c∈(fdC fd scope cl oc names h.objs.size).own∨∃y,fd.env.cells.lookup y=some c:=by
 obtain ⟨C,hC⟩:∃C:Nat,C=h.objs.size:=⟨_,rfl⟩
 refine wh hC ?_
 have hk:∀b o,h.get? b=some o→h'.get? b=some o:=fun b o e=>by refine wg eh ?_;exact pushCells_keeps _ _ b o (BC _ _ e)
 have hCo:h'.get? C=some {cls:= .type "dict",data:= .dict #[]}:=by refine wg eh (wg hC ?_);exact pushCells_keeps _ _ _ _ (B0 _ rfl)
 have hcell:∀y,oc=some y→h'.IsCell (C+1) none:=fun y e=>by
  subst e
  refine wg eh (wg (O.own.1 ..) (wg hC ?_))
  have:=B0 (h.push {cls:= .type "dict",data:= .dict #[]}) (o:={cls:= .type "cell",data:= .cell none}) rfl
  rw[H8] at this
  exact ⟨_,this,rfl⟩
 have fresh:∀a∈C::oOwn oc (C+1),h.objs.size≤a∧a<h'.objs.size:=fun a m=>by
  rcases C4.mp m with rfl | m
  ·exact ⟨B3 hC.symm,G1 hCo⟩
  ·cases oc with
   | none=>cases m
   | some y=>refine wg (A8.mp m) (wh hC ?_);exact ⟨O9 _,(hcell y rfl).lt⟩
 have sz:h.objs.size≤h'.objs.size:=D9 (hC▸G1 hCo)
 refine an2 (S.newPs (P:=C::oOwn oc (C+1)) hk sz fresh) fun S' K=>?_
 have outer:∀{x c},cl.lookup x=some c→fd.env.cells.lookup x=some c:=fun e=>O.sub _ (mem_of_lookup e)
 have outLt:∀{x c},fd.env.cells.lookup x=some c→c<C:=fun {x c} e=>by refine an2 (F.cells x c e) fun hh0 zz=>?_;refine ex1 hh0 fun v hv=>?_;clear hh0;refine wg hC ?_;exact hv.lt
 have split:∀{x c},(FX oc (C+1) cl).lookup x=some c→(oc=some x∧c=C+1)∨fd.env.cells.lookup x=some c:=fun {x c} e=>by
  cases oc with
  | none=>exact .inr (outer e)
  | some y=>
   by_cases hx:x=y
   ·subst hx
    change List.lookup x ((x,C+1)::cl)=some c at e
    rw[List.lookup_cons_self] at e
    cases e
    exact .inl ⟨rfl,rfl⟩
   ·refine .inr (outer ?_)
    change List.lookup x ((y,C+1)::cl)=some c at e
    rw[a0,beq_eq_false_iff_ne.mpr hx] at e
    exact e
 refine ⟨S',(S.same hk sz).2,⟨O.kind,F.glob,F.blt,⟨fun zz=>none,⟨_,#[],0,hCo,rfl,fun zz he=>by simp at he,fun zz=>rfl⟩,fun i v e=>?_⟩,fun x c e=>?_,List.mem_cons_self,fun a m=>D0 _ m,O.nd⟩,fun a m=>hC▸(fresh a m).1,fun x c e=>(split e).imp (fun ⟨q1,q2⟩=>by subst q1;refine wg q2 ?_;exact .tail _ (.head _)) fun q=>⟨x,q⟩⟩
 ·refine BD (get_nones e) fun j hji e0=>?_
  subst hji
  refine BD (get_caps e0) fun i hj e0=>?_
  refine xa14 (O.cap _ _ hj) fun x h1 h2 h3 hh=>?_;refine an2 hh fun h4 h5=>?_;clear hh
  refine BD F.ns fun m zz hm=>?_
  refine BD (hm i v e0) fun x' hx' r=>?_
  rw[h2] at hx';cases hx'
  rcases r with ⟨q,_⟩ | ⟨_,c,u,e1,e2,e3⟩
  ·rw[h3] at q;cases q
  ·exact ⟨x,h1,.inr ⟨h4,c,u,(h5 _).trans e1,GF e2 (hk c),e3.keep K⟩⟩
 ·rcases split e with ⟨e1,rfl⟩ | e1
  ·subst e1
   refine ⟨⟨_,hcell _ rfl⟩,Nat.succ_ne_self C,D0 _ (.tail _ (.head _)),fun y e=>?_⟩
   rcases split e with ⟨e2,_⟩ | e2
   ·cases e2;rfl
   ·exact absurd (outLt e2) (G4.mpr (O9 C))
  ·have hlt:=outLt e1
   refine an4 (F.cells x c e1) fun hh0 q1 q2 q3=>?_;refine ex1 hh0 fun v hv=>?_;clear hh0
   refine ⟨⟨v,GF hv (hk c)⟩,E4 hlt,B8 _ q2,fun y e=>?_⟩
   rcases split e with ⟨_,e2⟩ | e2
   ·exact absurd hlt (by refine wg e2 ?_;exact G4.mpr (O9 C))
   ·exact q3 y e2
end
section
variable {g:Gl} {fd:Fd} {A:Around} {E:Value→Shared→Prop} {s:Shared} {ρ ρ':Rho} {hp:Hp} {P:List Addr} {scope:Scope} {cl:List (Str×Addr)} {oc:Option Str} {names:List Str} {nl:Nat} {caps:List Nat} {lc:Lc}
 {T T2 elt iter iter2:Expr} {ifs ifs2:List Expr} {gens rest:List Comprehension} {pos:Pos} {d:Nat} {D I:Addr} {env:Env} {a:XE V} {f:XM→XM} {m:XM} {t:XT} {x:XI} {Q:PySem.Fin→Shared→Prop} {tail:Addr→Addr→Sem Unit}
theorem HJ (heq:compTurn (.ListComp elt gens scope pos) d (.ref I) (.ref D) env=(do
   standAt iter.pos
   match ←pyNext (.ref I) with
   | none=>pure (.done .next)
   | some v=>
    letOwnedTupleGo T (.ref I) v
    assign T env v
    let mut ok:=true
    for c in ifs do
     if ok then ok ←isTrue c env (eval c env)
    if ok then
     (do let _ ←call (.builtin "list.append") [.ref D,←eval elt env])
    again (.compLoop (.ListComp elt gens scope pos) d (.ref I) (.ref D) env)))
  (h:HI g A env T ifs (do let _ ←call (.builtin "list.append") [.ref D,←eval elt env]) I E (fun s=>Q (.done .next) s) (fun s=>Q (.again (.compLoop (.ListComp elt gens scope pos) d (.ref I) (.ref D) env)) s) s):
  wpAny g.m A (compTurn (.ListComp elt gens scope pos) d (.ref I) (.ref D) env) Q E s:=by
 refine wg heq ?_
 refine A1 (O8 (A1 (J8 h (fun r s₁ h₁=>?_) fun zz zz h'=>h')))
 cases r with
 | none=>exact A5 h₁
 | some v=>
  refine A1 (J8 h₁ (fun zz s₂ h₂=>A1 (J8 h₂ (fun zz s₂ h₂=>A1 (J8 h₂ (fun ok s₃ h₃=>?_) fun zz zz h'=>h')) fun zz zz h'=>h')) fun zz zz h'=>h')
  cases ok with
  | false=>exact A5 h₃
  | true=>exact A1 (J8 h₃ (fun zz s₄ h₄=>A5 h₄) fun zz zz h'=>h')
theorem turn_one (h:HI g A env T ifs (do let _ ←call (.builtin "list.append") [.ref D,←eval elt env]) I E (fun s=>Q (.done .next) s) (fun s=>Q (.again (.compLoop (.ListComp elt [⟨T,iter,ifs,0⟩] scope pos) 0 (.ref I) (.ref D) env)) s) s):
  wpAny g.m A (compTurn (.ListComp elt [⟨T,iter,ifs,0⟩] scope pos) 0 (.ref I) (.ref D) env) Q E s:=HJ (iter:=iter) (T:=T) (ifs:=ifs) (by rfl) h
theorem turn_snd (h:HI g A env T2 ifs2 (do let _ ←call (.builtin "list.append") [.ref D,←eval elt env]) I E (fun s=>Q (.done .next) s) (fun s=>Q (.again (.compLoop (.ListComp elt [⟨T,iter,ifs,0⟩,⟨T2,iter2,ifs2,0⟩] scope pos) 1 (.ref I) (.ref D) env)) s) s):
  wpAny g.m A (compTurn (.ListComp elt [⟨T,iter,ifs,0⟩,⟨T2,iter2,ifs2,0⟩] scope pos) 1 (.ref I) (.ref D) env) Q E s:=HJ (iter:=iter2) (T:=T2) (ifs:=ifs2) (by rfl) h
noncomputable def FY (e:Expr) (iter:Expr) (env:Env) (D:Addr):Sem Unit:=do
 let x ←eval iter env
 standAt iter.pos
 let x ←foldedSetIterable iter env x
 let it ←holding [x] (pyIter x)
 let _ ←runOwn (.compStart e 1 it (.ref D) env) env
theorem turn_two (h:HI g A env T ifs (FY (.ListComp elt [⟨T,iter,ifs,0⟩,⟨T2,iter2,ifs2,0⟩] scope pos) iter2 env D) I E (fun s=>Q (.done .next) s) (fun s=>Q (.again (.compLoop (.ListComp elt [⟨T,iter,ifs,0⟩,⟨T2,iter2,ifs2,0⟩] scope pos) 0 (.ref I) (.ref D) env)) s) s):
  wpAny g.m A (compTurn (.ListComp elt [⟨T,iter,ifs,0⟩,⟨T2,iter2,ifs2,0⟩] scope pos) 0 (.ref I) (.ref D) env) Q E s:=by
 have heq:compTurn (.ListComp elt [⟨T,iter,ifs,0⟩,⟨T2,iter2,ifs2,0⟩] scope pos) 0 (.ref I) (.ref D) env=(do
   standAt iter.pos
   match ←pyNext (.ref I) with
   | none=>pure (.done .next)
   | some v=>
    letOwnedTupleGo T (.ref I) v
    assign T env v
    let mut ok:=true
    for c in ifs do
     if ok then ok ←isTrue c env (eval c env)
    if ok then
     let x ←eval iter2 env
     standAt iter2.pos
     let x ←foldedSetIterable iter2 env x
     let _ ←runOwn (.compStart (.ListComp elt [⟨T,iter,ifs,0⟩,⟨T2,iter2,ifs2,0⟩] scope pos) 1 (←holding [x] (pyIter x)) (.ref D) env) env
    again (.compLoop (.ListComp elt [⟨T,iter,ifs,0⟩,⟨T2,iter2,ifs2,0⟩] scope pos) 0 (.ref I) (.ref D) env)):=by rfl
 refine wg heq ?_
 refine A1 (O8 (A1 (J8 h (fun r s₁ h₁=>?_) fun zz zz h'=>h')))
 cases r with
 | none=>exact A5 h₁
 | some v=>
  refine A1 (J8 h₁ (fun zz s₂ h₂=>A1 (J8 h₂ (fun zz s₂ h₂=>A1 (J8 h₂ (fun ok s₃ h₃=>?_) fun zz zz h'=>h')) fun zz zz h'=>h')) fun zz zz h'=>h')
  cases ok with
  | false=>exact A5 h₃
  | true=>
   rw[if_pos rfl] at h₃ ⊢
   unfold FY at h₃
   intro Γ p hΓ
   have:=h₃ Γ p hΓ
   simp only[Sem.wp_bind'] at this ⊢
   exact this
theorem c_start {gs:Option Comprehension} {acc:Value} {R:Result→Shared→Prop} (hg:gens[d]?=gs) (hnot:gs.elim false (·.is_async !=0)=false) (self:∀{A E} {Q:Value→Shared→Prop},Q (.ref I) s→wpAny g.m A (pyIter (.ref I)) Q E s)
  (loop:codeAny g.m A (.compLoop (.ListComp elt gens scope pos) d (.ref I) acc env) R s):codeAny g.m A (.compStart (.ListComp elt gens scope pos) d (.ref I) acc env) R s:=by
 refine codeAny_of_tree ?_
 refine wpAny_notedAt ?_
 unfold compStart
 refine wg (show clausesOf (.ListComp elt gens scope pos)=gens from rfl) (wg hg (wg hnot ?_))
 show wpAny _ _ (ask >>=_) _ _ _
 refine A1 (T6 (wpAny_ite ?_))
 split
 ·first
   | exact A1 (A5 (A5 (A0 rfl loop)))
   | exact A5 (A0 rfl loop)
 ·refine A1 (Q6 ?_)
  cases gs with
  | some c=>exact A1 (O8 (A1 (self (A5 (A0 rfl loop)))))
  | none=>exact A1 (self (A5 (A0 rfl loop)))
theorem m_inner (hh:A.handled=none) (hi:NI g fd A T2 iter2 x) (ht:NA g fd A (assign T2 fd.env) t) (hc:NIf g fd A ifs2 f) (he:NV g fd A elt a) (hs:∀x,foldedSetIterable iter2 fd.env x=pure x):
  NM g fd A D (FY (.ListComp elt [⟨T,iter,ifs,0⟩,⟨T2,iter2,ifs2,0⟩] scope pos) iter2 fd.env D) (Hl x t (f (BY a))):=by
 intro s ρ lc acc hp K S F hD oD L q Q E k
 refine A1 (J8 (hi S F q (Q:=fun u s2=>wpAny g.m A (do let _ ←runOwn (.compStart (.ListComp elt [⟨T,iter,ifs,0⟩,⟨T2,iter2,ifs2,0⟩] scope pos) 1 u (.ref D) fd.env) fd.env) Q E s2)
  fun {vs G hp1 I P Rem ρ1 s1} q S1 X1 hP src r1=>A1 (wpAny_runOwn (Q:=fun zz s'=>wpAny g.m A (pure ()) Q E s') ?_)) (fun u s1 h=>A1 (O8 (A1 (An (hs u) (A1 (D4 h)))))) fun zz zz h=>h)
 have lt:∀{a},a∈ρ.p→a∉P:=fun m m'=>G4.mpr (hP _ m') (S.1.pt _ m).2.2
 have F1:=F.addP S.1 X1 hP
 have L1:Acc s1.heap ⟨ρ1.l,P++ρ1.p⟩ D acc:=L.keep ⟨fun n e=>have q:=X1.k0.k n e;⟨⟨q.1.1,fun m=>(C5.mp m).elim (fun m=>G4.mpr (hP _ m) (G1 e)) q.1.2⟩,q.2⟩,X1.k0.p⟩ fun o e=>X1.keep D o e (S.1.pt D hD).1 nofun
 refine c_start rfl rfl (fun h=>src.self r1 h) (c_loop hh src (fun h=>turn_snd h) ht hc (m_emit he) S1 F1 (B8 _ (X1.p▸hD)) oD L1
  (fun a m=>⟨D0 _ m,⟨fun m'=>lt (F.own a m') m,fun x c e q=>lt (F.cells x c e).2.2.1 (q▸m)⟩,fun q=>lt hD (q▸m)⟩) r1 q fun {lc5 acc5 hp5 ρ5 s5} q S5 F5 L5 X5=>A5 ?_)
 obtain ⟨l5,p5⟩:=ρ5
 cases show p5=_ from X5.p
 refine an2 S5.1.dropP fun S6 K6=>?_
 exact k q ⟨S6,S5.2⟩ (F5.mono0 (·∈ρ1.p) K6 (fun a m=>X1.p▸F.own a m) (fun x c e=>X1.p▸(F.cells x c e).2.2.1) (fun zz m=>m) fun zz zz zz e=>e) (L5.keep K6 fun zz e=>e)
  (X1.up.transP (X5.re (p:=ρ1.p)) fun a m=>(C5.mp m).elim (fun m=>.inr (hP a m)) .inl)
end
noncomputable def xlc (b:Bool) (x:XE (List V)):XE V:=match b with
 | true=>Bg x
 | false=>Bv x
section
variable {g:Gl} {fd:Fd} {A:Around} {E:Value→Shared→Prop} {s:Shared} {ρ ρ':Rho} {hp hp0:Hp} {h0:Heap} {P l1:List Addr} {scope:Scope} {cl:List (Str×Addr)} {oc:Option Str} {names:List Str} {nl:Nat} {caps:List Nat} {lc:Lc}
 {T elt iter:Expr} {ifs:List Expr} {rest:List Comprehension} {pos:Pos} {I:Addr} {f:XM→XM} {m:XM} {t:XT} {x:XI} {tail:Addr→Addr→Sem Unit}
structure CompS (g:Gl) (fd:Fd) (A:Around) (scope:Scope) (cl:List (Str×Addr)) (oc:Option Str) (names:List Str) (nl:Nat) (caps:List Nat) (T elt iter:Expr) (ifs:List Expr) (rest:List Comprehension) (pos:Pos) (tail:Addr→Addr→Sem Unit) (t:XT) (f:XM→XM) (m:XM):Prop where
 O:CompOk fd scope cl oc names nl caps
 t:∀C,NA g (fdC fd scope cl oc names C) A (assign T (cEnv fd.env scope cl oc C)) t
 c:∀C,NIf g (fdC fd scope cl oc names C) A ifs f
 b:∀C D,NM g (fdC fd scope cl oc names C) A D (tail C D) m
 n:∀{I C D E Q s},HI g A (cEnv fd.env scope cl oc C) T ifs (tail C D) I E (fun s=>Q (.done .next) s) (fun s=>Q (.again (.compLoop (.ListComp elt (⟨T,iter,ifs,0⟩::rest) scope pos) 0 (.ref I) (.ref D) (cEnv fd.env scope cl oc C))) s) s→
  wpAny g.m A (compTurn (.ListComp elt (⟨T,iter,ifs,0⟩::rest) scope pos) 0 (.ref I) (.ref D) (cEnv fd.env scope cl oc C)) Q E s
theorem comp_in {vs:List V} {G:Hp→Prop} {Rem:List V→Heap→Rho→Prop} {K:List V→Hp→Prop} (hh:A.handled=none) (Z:CompS g fd A scope cl oc names nl caps T elt iter ifs rest pos tail t f m) (S0:RH g ρ hp0 h0) (F0:RF g fd ρ lc h0)
  (S:RS g ⟨l1,P++ρ.p⟩ hp s) (X1:Ext [] ρ h0 ⟨l1,ρ.p⟩ s.heap) (hP:∀a∈P,h0.objs.size≤a) (src:Src g T P G I Rem) (r:Rem vs s.heap ⟨l1,P++ρ.p⟩) (q:xcl t (f m) G (fun zz acc hp=>K acc hp) vs (nones nl (HD lc caps)) [] hp)
  {RR:Value→Addr→Result→Shared→Prop}
  (k:∀{acc hp D C l s'},K acc hp→RS g ⟨l,C::D::ρ.p⟩ hp s'→Acc s'.heap ⟨l,C::D::ρ.p⟩ D acc→Ext [] ρ h0 ⟨l,ρ.p⟩ s'.heap→h0.objs.size≤C→h0.objs.size≤D→C≠D→(∃mm,s'.heap.Ns C mm)→RR (.ref D) C (.ok .next) s'):
  wpAny g.m A (newList []) (fun acc s₃=>wpAny g.m A (newFunctionEnv scope fd.env.globals cl [] fd.env.qual none .none (some fd.env)) (fun cenv s₄=>
   codeAny g.m A (.compStart (.ListComp elt (⟨T,iter,ifs,0⟩::rest) scope pos) 0 (.ref I) acc {cenv with scope:=relabel scope fd.env}) (RR acc cenv.locals) s₄) E s₃) E s:=by
 refine J0 ?_ (by size_fits)
 have F:=F0.addP S0 X1 hP
 obtain ⟨D,hD⟩:∃D:Nat,D=s.heap.objs.size:=⟨_,rfl⟩
 have hD0:h0.objs.size≤D:=hD▸X1.size
 refine an2 (S.1.newPs (P:=[D]) (h':=s.heap.push (BL #[] 0)) BC Bd fun a m=>by refine wg (A8.mp m) (wg hD ?_);exact ⟨B2 _,Cy⟩) fun S1 K1=>?_
 have F1:RF g fd ⟨l1,[D]++(P++ρ.p)⟩ lc (s.heap.push (BL #[] 0)):=F.mono K1 (fun a m=>B8 _ m) fun a zz o e=>BC a o e
 have gD:(s.heap.push (BL #[] 0)).get? D=some (BL #[] 0):=hD▸B0 _ rfl
 have lD:D<(s.heap.push (BL #[] 0)).objs.size:=hD▸Cy
 refine wh hD ?_
 refine newCompEnv Z.O.own ?_
 refine an5 (compFrame Z.O S1 F1 rfl) fun S2 X2 F2 fr sp=>?_
 generalize hC:(s.heap.push (BL #[] 0)).objs.size=C at*
 generalize pushCells ((s.heap.push (BL #[] 0)).push {cls:= .type "dict",data:= .dict #[]}) scope.names=h2 at*
 have pin:∀{a},a∈P→a∈P++ρ.p:=fun m=>D0 _ m
 have pin':∀{a},a∈ρ.p→a∈P++ρ.p:=fun m=>B8 _ m
 have below:∀{a},a∈D::P→a<C:=fun m=>(C4.mp m).elim (fun q=>q▸lD) fun m=>A9 (S.1.pt _ (pin m)).2.2 (hC▸Bd)
 have old:∀{a},a∈D::P→h0.objs.size≤a:=fun m=>(C4.mp m).elim (fun q=>q▸hD0) (hP _)
 have off:∀a∈D::P,Off (fdC fd scope cl oc names C) a:=fun a m=>⟨fun m'=>G4.mpr (fr a m') (below m),fun x c e q=>(sp x c e).elim (fun m'=>G4.mpr (fr c m') (q▸below m)) fun ⟨y,e'⟩=>G4.mpr (old m) (q▸(S0.pt c (F0.cells y c e').2.2.1).2.2)⟩
 have up:∀{a},a∈D::P→a∈(fdC fd scope cl oc names C).own++([D]++(P++ρ.p)):=fun m=>B8 _ ((C4.mp m).elim (fun q=>q▸.head _) fun m=>.tail _ (pin m))
 have R2:Rem vs h2 ⟨l1,(fdC fd scope cl oc names C).own++([D]++(P++ρ.p))⟩:=by
  have O:=src.ok hh
  have Y1:=S.1.push (o:=BL #[] 0)
  refine O.keep (O.keep r K1 fun a zz o e=>BC a o e) ⟨fun n e=>?_,X2.k0.p⟩ fun a m o e=>X2.keep a o e (S1.pt a (.tail _ (pin m))).1 nofun
  have q:=X2.k0.k n e
  exact ⟨⟨q.1.1,fun m=>(C5.mp m).elim (fun m=>G4.mpr (fr _ m) (hC▸G1 e)) q.1.2⟩,q.2⟩
 have g2:h2.get? D=some (BL #[] 0):=X2.keep D _ gD (S1.pt D (.head _)).1 nofun
 refine c_start (gs:=some ⟨T,iter,ifs,0⟩) rfl rfl (fun h=>src.self (s:={s with heap:=h2}) R2 h) (c_loop (fd:=fdC fd scope cl oc names C) (s:={s with heap:=h2}) (acc:=[]) hh src Z.n (Z.t C) (Z.c C) (Z.b C D) ⟨S2,S.2⟩ F2 (up (.head _)) (off D (.head _)) ⟨#[],0,g2,.nil⟩
  (fun a m=>⟨up (.tail _ m),off a (.tail _ m),fun q=>N9 _ (AY (S.1.pt a (pin m)).2.2 (hD.symm.trans q.symm))⟩) R2 q fun {lc5 acc5 hp5 ρ5 s5} q S5 F5 L5 X5=>?_)
 obtain ⟨l5,p5⟩:=ρ5
 cases show p5=_ from X5.p
 refine an2 (S5.1.sub (p:=C::D::ρ.p) fun a m=>(C4.mp m).elim (fun q=>q▸D0 _ (.head _)) fun m=>B8 _ ((C4.mp m).elim (fun q=>q▸.head _) fun m=>.tail _ (pin' m))) fun S6 K6=>?_
 refine BD F5.ns fun mm hm zz=>?_
 refine k q ⟨S6,S5.2⟩ (L5.keep K6 fun zz e=>e) ((X1.trans ((S.1.push (o:=BL #[] 0)).2.re (p:=ρ.p))).trans (X2.re (p:=ρ.p)) |>.transP (X5.re (p:=ρ.p)) fun a m=>.inr ?_) (A3 hD0 (D9 lD)) hD0 (J6 lD) ⟨mm,hm⟩
 exact (C5.mp m).elim (fun m=>hP a m) fun m=>(C4.mp m).elim (fun q=>q▸hD0) fun m=>A3 (A3 hD0 (D9 lD)) (fr a m)
theorem n_comp (hh:A.handled=none) (hi:NI g fd A T iter x) (Z:CompS g fd A scope cl oc names nl caps T elt iter ifs rest pos tail t f m) (hs:∀x,foldedSetIterable iter fd.env x=pure x):
  NL g fd A (.ListComp elt (⟨T,iter,ifs,0⟩::rest) scope pos) (Bf nl caps x t (f m)):=by
 intro s ρ lc hp K S F q Q E k
 refine wg (eval_ListComp ..) ?_
 refine wpAny_comprehension_free (use:=none) rfl hs Z.O.clos Z.O.kind Z.O.loc (hi S F q fun {vs G hp1 I P Rem ρ1 s1} q S1 X1 hP src r1=>?_)
 obtain ⟨l1,p1⟩:=ρ1
 cases show p1=_ from X1.p
 refine comp_in hh Z S.1 F S1 X1 hP src r1 q fun {acc hp5 D C l s'} q S5 L5 X5 hC hD hCD hm=>?_
 obtain ⟨mm,hm⟩:=hm
 refine ⟨mm,hm,fun h' hsb=>?_⟩
 refine an2 (S5.1.chgP (.head _) hsb) fun S6 X6=>?_
 refine an2 (S6.sub (p:=D::ρ.p) fun a m=>.tail _ m) fun S7 K7=>?_
 refine CU ((L5.keep (X6.k fun a m=>A8.mp m▸.head _) fun o e=>BG hsb e hCD.symm).keep K7 fun zz e=>e) fun us n h1 h2=>?_
 exact k (ρ':=⟨l,ρ.p⟩) q ⟨S7,S5.2⟩ (X5.transP (X6.re (p:=ρ.p)) fun a m=>.inr (A8.mp m▸hC)) hD (fun m=>G4.mpr hD (S.1.pt D m).2.2) h1 h2
noncomputable def lcK (b:Bool) (K:KV):List V→Hp→Prop:=fun l hp=>match b with
 | true=>K (.lst l) hp
 | false=>K (.loc hp.n) (hp.alloc (.list l))
theorem fin_lc {b:Bool} {x:XE (List V)} {lc:Lc} {hp:Hp} {K:KV} (q:xlc b x lc hp K):x lc hp (lcK b K):=by
 cases b
 ·exact q
 ·exact q
theorem lc_show {b:Bool} {h:Heap} {l p:List Addr} {D:Addr} {acc:List V} {K:KV} (S:RH g ⟨l,D::p⟩ hp h) (hD:D∉p) (L:Acc h ⟨l,D::p⟩ D acc) (q:lcK b K acc hp):
  ∃l' v hp',K v hp'∧RH g ⟨l',p⟩ hp' h∧(l'=l∨l'=l++[D])∧RV h ⟨l',p⟩ v (.ref D):=by
 refine CU L fun us n h1 h2=>?_;clear L
 cases b with
 | true=>
  refine an2 (RH.show' (ρ:=⟨l,p⟩) S) fun S2 K2=>?_
  exact ⟨l,_,_,q,S2,.inl rfl,_,us,n,rfl,⟨h1,(S.pt _ (.head _)).1,hD⟩,h2.keep K2⟩
 | false=>
  refine an2 (RH.adopt (ρ:=⟨l,p⟩) S (po:= .list acc) (fun K=>⟨us,n,h1,h2.keep K⟩) hD) fun S2 K2=>?_
  exact ⟨_,_,_,q,S2,.inr rfl,_,rfl,RH.at_ (ρ:=⟨l,D::p⟩) (a:=D) S⟩
theorem s_asgcomp {b:Bool} {i:Nat} {y:Str} {py spos:Pos} (hh:A.handled=none) (hi:NI g fd A T iter x) (Z:CompS g fd A scope cl oc names nl caps T elt iter ifs rest pos tail t f m) (hs:∀x,foldedSetIterable iter fd.env x=pure x)
  (hy:fd.names[i]?=some y) (hya:CV fd y) (hsw:swapsWith (.ListComp elt (⟨T,iter,ifs,0⟩::rest) scope pos) (some (.Name y py)) spos.line fd.env=pure true):
  NS g fd A (exec (.Assign [.Name y py] (.ListComp elt (⟨T,iter,ifs,0⟩::rest) scope pos) spos) fd.env) (BO (xlc b (Bf nl caps x t (f m))) (BE i)):=by
 intro s ρ lc hp N R S F q Q E k _
 refine wg (exec_Assign_Name_used _ _ _ _ hsw) ?_
 refine A1 (O8 (A1 ?_))
 refine A1 (J8 (wpAny_comprehension_free (use:=some (assign (.Name y py) fd.env)) (Q:=fun zz s'=>Q .next s') rfl hs Z.O.clos Z.O.kind Z.O.loc
  (hi S F (fin_lc q) fun {vs G hp1 I P Rem ρ1 s1} q S1 X1 hP src r1=>?_)) (fun zz s' hq=>A5 (A5 hq)) fun zz zz e=>e)
 obtain ⟨l1,p1⟩:=ρ1
 cases show p1=_ from X1.p
 refine comp_in hh Z S.1 F S1 X1 hP src r1 q fun {acc hp5 D C l s'} q S5 L5 X5 hC hD hCD hm=>?_
 obtain ⟨mm,hm⟩:=hm
 obtain ⟨S6,K6⟩:=S5.1.sub (p:=D::C::ρ.p) fun a m=>(C4.mp m).elim (fun q=>q▸.tail _ (.head _)) fun m=>(C4.mp m).elim (fun q=>q▸.head _) fun m=>.tail _ (.tail _ m)
 obtain ⟨l',v,hp',q,S7,hl,r7⟩:=lc_show (b:=b) (K:=fun v hp=>BE i v lc hp N) S6 (fun m=>(C4.mp m).elim (fun q=>hCD q.symm) fun m=>G4.mpr hD (S.1.pt D m).2.2) (L5.keep K6 fun zz e=>e) q
 have X7:Ext [] ρ s.heap ⟨l',ρ.p⟩ s'.heap:=by
  rcases hl with rfl | rfl
  ·exact X5
  ·exact X5.adopt hD
 have F7:RF g fd ⟨l',[C]++ρ.p⟩ lc s'.heap:=F.addP S.1 X7 fun a m=>A8.mp m▸hC
 have lt:∀{a},a∈ρ.p→a≠C:=fun m q=>G4.mpr hC (q▸(S.1.pt _ m).2.2)
 have offC:Off fd C:=⟨fun m=>lt (F.own _ m) rfl,fun x c e=>lt (F.cells x c e).2.2.1⟩
 refine wpAny_assign_Name (store (ρ:=⟨l',[C]++ρ.p⟩) (s:=s') ⟨S7,S5.2⟩ F7 hy hya r7 fun {lc8 hp8 ρ8 s8} e8 S8 F8 X8=>?_)
 obtain ⟨rfl,rfl⟩:=e8
 obtain ⟨l8,p8⟩:=ρ8
 cases show p8=_ from X8.p
 have C8:C∈[C]++ρ.p:= .head _
 refine ⟨mm,Ns_at hm fun o e=>X8.keep C o e (S7.pt C C8).1 offC.o,fun h' hsb=>?_⟩
 refine an2 (S8.1.chgP C8 hsb) fun S9 X9=>?_
 have F9:=F8.off S8.1 X9 fun a m=>by refine wg (A8.mp m) ?_;exact ⟨offC,C8⟩
 refine an2 S9.dropP fun S10 K10=>?_
 exact k (s:={s8 with heap:=h'}) q ⟨S10,S8.2⟩ (F9.mono0 (·∈ρ.p) K10 F.own (fun x c e=>(F.cells x c e).2.2.1) (fun zz m=>m) fun zz zz zz e=>e)
  ((X7.up.trans (X8.re (p:=ρ.p))).transP (X9.re (p:=ρ.p)) fun a m=>.inr (A8.mp m▸hC))
end
section
variable {g:Gl} {fd:Fd} {A:Around} {E:Value→Shared→Prop} {s:Shared} {ρ:Rho} {hp:Hp} {h:Heap} {f:Value} {x y:Str} {p pos:Pos} {e:Expr} {es:List Expr} {a:XE V} {ms:List (XE V)}
theorem ints_items:∀{ns:List Int} {us:List Value},RVs h ρ (ns.map V.int) us→∃xs:List (Int×Tok),us=xs.map (fun p=>Av p.1 p.2)∧ns.length=xs.length:=by
 intro ns
 induction ns with
 | nil=>exact fun r=>⟨[],r,rfl⟩
 | cons i ns ih=>
  rintro _ ⟨_,us,rfl,⟨t,rfl⟩,r⟩
  refine BD (ih r) fun xs hh1 h2=>?_;obtain rfl:=hh1
  exact ⟨(i,t)::xs,rfl,congrArg (·+1) h2⟩
theorem int_list {m:List Int} {us:Array Value} {b:Addr} {n:Nat} (L:IsL s.heap ρ (m.map V.int) b us n):∃xs:Array (Int×Tok),s.heap.IsList b (intItems xs)∧m.length=xs.size:=by
 refine BD (ints_items L.r) fun xs h1 h2=>?_
 obtain rfl:us=intItems xs.toArray:=t9.mp (by refine wg h1 ?_;simp[intItems])
 exact ⟨xs.toArray,Bm L.o,by exact wg h2 (wg H5 rfl)⟩
theorem b_sum (hh:A.handled=none):NF g A (.builtin "sum") opSum:=fun {s ρ hp vs us K} S r q Q E k=>
 e1 (C:=fun us=>wpAny _ _ (call _ us) _ _ _) q r fun v u r1 q=>aE (C:=fun u=>wpAny _ _ (call _ [u]) _ _ _) S.1 q r1 fun l b us n ⟨m,e,q⟩ L=>by
  subst e
  refine BD (int_list L) fun xs hl zz=>?_
  refine wpAny_size (sum_intListG hh hl fun h' tk t' hk sz=>?_)
  refine an2 (S.1.same hk sz) fun S' X=>?_
  exact k (s:={s with heap:=h',toks:=tk}) (q _) ⟨S',S.2⟩ X ⟨_,rfl⟩
theorem b_max (hh:A.handled=none):NF g A (.builtin "max") opMax:=fun {s ρ hp vs us K} S r q Q E k=>
 e1 (C:=fun us=>wpAny _ _ (call _ us) _ _ _) q r fun v u r1 q=>aE (C:=fun u=>wpAny _ _ (call _ [u]) _ _ _) S.1 q r1 fun l b us n ⟨m,e,hm,q⟩ L=>by
  subst e
  refine BD (int_list L) fun xs hl hz=>?_
  refine wpAny_size (max_intList hh hl (hz▸List.length_pos_iff.mpr hm) fun v h' tk hv hk sz=>?_)
  refine ex1 (intItems_at hv) fun t hh1=>?_;obtain rfl:=hh1
  refine an2 (S.1.same hk sz) fun S' X=>?_
  exact k (s:={s with heap:=h',toks:=tk}) (q _) ⟨S',S.2⟩ X ⟨_,rfl⟩
theorem b_index {n:Nat} (hA:Rm A n):NF g A (.builtin "list.index") Hg:=by
 intro s ρ hp vs us K S r q Q E k
 refine e2 (C:=fun us=>wpAny _ _ (call _ us) _ _ _) q r fun v x u u' r1 r2 q=>aE (C:=fun u=>wpAny _ _ (call _ [u,_]) _ _ _) S.1 q r1 fun l a1 us n1 q L=>?_
 obtain ⟨⟨hk,hkx,hz⟩,q⟩:=q
 have z1:=L.z
 cases hj:l.findIdx? fun y=>decide (y=x) with
 | none=>rw[hj] at q;exact q.elim
 | some j=>
  rw[hj] at q
  rw[J4] at hj
  refine BD hj fun hjl hjx hjn=>?_;clear hj
  have keys:∀{m:Nat} {v},l[m]?=some v→V.key 8 v=true:=fun e=>hk _ (B9 e)
  let ee:Value→Bool:=fun y=>@decide (∃m:Nat,us[m]?=some y∧l[m]?=some x) (M9 _)
  have he:∀(m:Nat) (hm:m<us.size) (v:V),l[m]?=some v→ee us[m]=decide (v=x):=fun m hm v hv=>by
   have hym:us[m]?=some us[m]:=J2 hm
   refine BD (L.r.get hv) fun y w1 w2=>?_
   rw[D7,hym] at w1;cases w1
   refine decide_eq_decide.mpr ⟨fun ⟨m',h3,h4⟩=>?_,fun e=>⟨m,hym,e▸hv⟩⟩
   refine BD (L.r.get h4) fun y' w3 w4=>?_
   rw[D7,h3] at w3;cases w3
   exact RV.inj (keys hv) hkx w2 w4
  refine call_meets F.slot_list_index ⟨_,L.o,rfl⟩ F.entry_list_index (F.args_list_index_2 _ _) (SeqAt.list_indexAt a1 us n1 none #[] u' ee j (z1▸hjl) (Int.lt_of_lt_of_le (K4.mpr (A9 hjl hz)) (by decide))
   (by refine wg (he j (z1▸hjl) _ (B4 hjl)) ?_;exact hjx) (fun m hm hmj=>by
    refine wg (he m hm _ (B4 (z1▸hm))) ?_
    exact t7 _▸hjn m hmj)) ⟨L.o,fun y hy=>?_,k.tk S q ⟨_,rfl⟩⟩
  obtain ⟨m,hm,rfl⟩:=Array.mem_iff_getElem.mp hy
  intro prog' w' E' Q' hq
  obtain ⟨v,hv,rv⟩:∃v,l[m]?=some v∧RV s.heap ρ v us[m]:=by
   have hl:m<l.length:=z1▸hm
   obtain ⟨u,w1,w2⟩:=L.r.get (B4 hl)
   rw[D7,J2 hm] at w1;cases w1
   exact ⟨_,B4 hl,w2⟩
  rw[he m hm v hv] at hq
  exact DK (keys hv) hkx (by decide) (by decide) (un1 hA.un rfl) rv r2 hq
noncomputable def NFL (g:Gl) (A:Around) (f:Value) (op:List V→Hp→(List V→Hp→Prop)→Prop):Prop:=∀{s ρ hp vs us K},RS g ρ hp s→RVs s.heap ρ vs us→op vs hp K→∀{Q E},Fz g ρ s.heap K Q→wpAny g.m A (call f us) Q E s
theorem n_bl {op:List V→Hp→(List V→Hp→Prop)→Prop} (h:NAr g fd A es ms) (hop:NFL g A f op) (B:BOk g fd x f) (he:CA (.Name x p) es pos fd.env):NL g fd A (.Call (.Name x p) es [] pos) (xbl op ms):=by
 intro s ρ lc hp K S F q Q E k
 refine wg he ?_
 exact A1 (B.name S F (DU h (keepM B.hf) S F q fun q S1 X1 r1=>⟨trivial,hop S1 r1 q (k.up X1)⟩))
theorem Fz.made {h':Heap} {t n:Nat} {l:List V} {us:Array Value} {K:List V→Hp→Prop} {Q:Value→Shared→Prop} (k:Fz g ρ s.heap K Q) (S:RS g ρ hp s) (hk:∀b o,s.heap.get? b=some o→h'.get? b=some o) (ho:h'.get? s.heap.objs.size=some (BL us n))
  (r:RVs h' ⟨ρ.l,s.heap.objs.size::ρ.p⟩ l us.toList) (q:K l hp):Q (.ref s.heap.objs.size) {s with heap:=h',toks:=t}:=by
 have sz:=G1 ho
 refine an3 (S.1.newP (a:=s.heap.objs.size) hk (D9 sz) (B2 _) sz) fun S1 K1 n1=>?_
 exact k (ρ':=ρ) (s:={s with heap:=h',toks:=t}) q ⟨S1,S.2⟩ (S.1.same hk (D9 sz)).2 (B2 _) n1 ho r
theorem b_copy:NFL g A (.type "list") Hj:=fun {s ρ hp vs us K} S r q Q E k=>
 e1 (C:=fun us=>wpAny _ _ (call _ us) _ _ _) q r fun v u r1 q=>aE (C:=fun u=>wpAny _ _ (call _ [u]) _ _ _) S.1 q r1 fun l b us n q L=>
  call_list_seq b (.inl rfl) L.o rfl rfl (fun h' c' hk ho=>k.made S hk ho (L.r.keep (S.1.newP (a:=s.heap.objs.size) hk (D9 (G1 ho)) (B2 _) (G1 ho)).2.1) q.2) (L.z▸fit q.1)
theorem rngs:∀{n:Nat} {x:Int} {us:List Value},us.length=n→(∀(j:Nat) (u:Value),us[j]?=some u→∃t,u=Av (x+(j:Nat)*1) t)→RVs h ρ (EU x n) us:=by
 intro n
 induction n with
 | zero=>exact fun e zz=>N8.mp e
 | succ n ih=>
  intro x us e H
  cases us with
  | nil=>cases e
  | cons u us=>
   refine ⟨u,us,rfl,?_,ih (Q3 e) fun j u h=>?_⟩
   ·refine ex1 (H 0 u rfl) fun t hh1=>?_;obtain rfl:=hh1
    exact ⟨t,by exact wg Int.natCast_zero (wg (Int.zero_mul ..) (wg (Int.add_zero ..) rfl))⟩
   ·refine ex1 (H (j+1) u h) fun t hh1=>?_;obtain rfl:=hh1
    exact ⟨t,by refine wg (Int.mul_one ..) (wg (Int.mul_one ..) (wg (j0 ..) ?_));rewrite[Int.add_comm 1];rfl⟩
theorem n_listr {ip ipos:Pos} (hh:A.handled=none) (h:NAr g fd A es ms) (B:BOk g fd x (.type "list")) (B':BOk g fd y (.type "range")) (he:CA (.Name x p) [.Call (.Name y ip) es [] ipos] pos fd.env) (he':CA (.Name y ip) es ipos fd.env):
  NL g fd A (.Call (.Name x p) [.Call (.Name y ip) es [] ipos] [] pos) (xbl Er ms):=by
 intro s ρ lc hp K S F q Q E k
 refine wg he ?_
 refine A1 (B.name S F (z9 (by rfl) (keepM B.hf) (CK (by rfl) (i3 ?_ rfl))))
 refine wg he' ?_
 refine A1 (B'.name S F (DU h (keepM B'.hf) S F q fun {vs us hp1 ρ1 s1} q S1 X1 r1=>⟨trivial,rng_call S1 r1 q fun {a b t t' t'' s2 o} e hr ha hb q=>n7 ⟨trivial,?_⟩⟩))
 refine an2 (S1.1.push (o:=o)) fun S2 X2=>?_
 rw[e] at hr ⊢
 have hn:m5 a b 1=((b - a).toNat:Int):=rs_one
 exact call_list_range hh hr (small_one (N7 (by decide) ha.1) (W5 ha.2 (by decide)) (N7 (by decide) hb.1) (W5 hb.2 (by decide))) hn (Int.toNat_le.mpr (N7 (Int.sub_le_self b ha.1) (N7 hb.2 (by decide)))) fun h' tk acc c' hk ho hi=>Fz.made (s:={s1 with heap:=s1.heap.push o,toks:=s2.toks}) (k.up (X1.trans X2)) ⟨S2,S1.2⟩ hk ho (rngs (by refine wg C3 ?_;exact hi.1) fun j u hu=>hi.2 j u (by refine wh D7 ?_;exact hu)) q
end
theorem zip_no_len:typeLookup (.type "zip") "__len__"=pure none:=by refine wg (typeLookup_type ..) (wg r9 ?_);kernel_rfl
theorem zip_no_hint:typeLookup (.type "zip") "__length_hint__"=pure none:=by refine wg (typeLookup_type ..) (wg r9 ?_);kernel_rfl
theorem EP {hp:Hp} {i:Nat} {o o':PO}:(hp.put i o).put i o'=hp.put i o':=by exact wg (Bz ..) (wg (Bz ..) (wg (Bz ..) (wg (Ax ..) rfl)))
section
variable {g:Gl} {fd:Fd} {A:Around} {E:Value→Shared→Prop} {s:Shared} {ρ:Rho} {hp:Hp} {Z:Zp} {x y:Str} {p pos ipos ip apos:Pos} {o:Expr} {es:List Expr} {a b c:XE V} {ms:List (XE V)}
theorem ext_loop {i:Nat} {D:Addr} {l l1 l2:List V} {us us':Array Value} (hh:A.handled=none) (hz:ZP Z) (hP:∀a∈Z.own,a∈ρ.p) (hD:ρ.l[i]?=some D) (hlen:l.length+l1.length≤4096):
  ∀(m:Nat) {k:Nat} {s:Shared} {hp:Hp} {T:Option Addr},(Co l1 l2).length=k+m→RS g ρ hp s→hp.f i=some (.list (l++(Co l1 l2).take k))→ZS s.heap Z k→ZF s.heap Z T→IsT s.heap ρ l1 Z.a us→IsT s.heap ρ l2 Z.b us'→∀{R:Result→Shared→Prop},
   (∀{s'},RS g ρ (hp.put i (.list (l++Co l1 l2))) s'→Ext Z.own ρ s.heap ρ s'.heap→R (.ok (.ret .none)) s')→codeAny g.m A (.builtin "list.extend.loop" ⟨[.ref D,.ref Z.z,.none],[]⟩) R s:=by
 intro m
 induction m with
 | zero=>
  intro k s hp T hk S hf S1 f0 t1 t2 R c
  rw[Nat.add_zero] at hk
  refine O7 i6 ?_
  refine wg (M3 P8 _) ?_
  refine wpAny_size (A1 (Eu hh hz S1 f0 (BS t1.o) (BS t2.o) (fun {x y h' T'} hx hy=>?_) fun hn {h'} hb=>A5 fun sz=>?_))
  ·have h1:=(M7.mp hx).1
   have h2:=(M7.mp hy).1
   rw[←t1.z] at h1
   rw[←t2.z] at h2
   rw[EO] at hk
   exact absurd (Nat.lt_min.mpr ⟨h1,h2⟩) (by refine wg hk ?_;exact N9 _)
  ·refine an2 (S.1.chgs hP hb sz) fun S' X=>?_
   rw[Q9 (B3 hk)] at hf
   have e:hp.put i (.list (l++Co l1 l2))=hp:=by
    refine wg (Bz ..) ?_
    rw[CM] at hf
    exact p6 fun j=>by
     by_cases hj:i=j
     ·subst hj
      exact wg (n5 (B6.mp hf).1) (wg hf rfl)
     ·exact wg (List.getElem?_set_ne hj) rfl
   exact c (s':={s with heap:=h'}) (e.symm▸⟨S',S.2⟩) X
 | succ m ih=>
  intro k s hp T hk S hf S1 f0 t1 t2 R c
  have hlt:k<(Co l1 l2).length:=hk.symm▸N0 (L0 m)
  refine O7 i6 ?_
  refine wg (M3 P8 _) ?_
  show wpAny _ A.in1 (pyNext (.ref Z.z) >>=_) _ _ s
  refine A1 (Eu hh hz S1 f0 (BS t1.o) (BS t2.o) (fun {x y h' T'} hx hy S2 f1 _ ho hsz hb=>?_) fun hn=>?_)
  ·refine an2 (S.1.chgs hP hb (by refine wg hsz ?_;exact O9 _)) fun S' X=>?_
   have K:=X.k hP
   have rT:RV h' ρ (Co l1 l2)[k] (.ref s.heap.objs.size):=zip_pair (hk:=hlt) t1.r t2.r hx hy K ho S.1.fresh
   refine lR (k:=fun zz=>True) S' hD (by refine wg hf ?_;unfold pL;trivial) fun l' us n e L zz=>?_
   rw[hf] at e;cases e
   have hz1:=L.z
   rw[A7,List.length_take,Nat.min_eq_left (D9 hlt)] at hz1
   have hl:=EO (l:=l1) (r:=l2)
   refine an2 (RH.putList (s:={s with heap:=h'}) S' (f:=(·.push (.ref s.heap.objs.size))) (l':=l++(Co l1 l2).take (k+1)) hD L (by refine wg U9 (wg List.take_add_one (wg (B4 hlt) (wh (E5 ..) ?_)));exact L.r.app (.cons rT .nil))) fun S3 X3=>?_
   have hs:K5 D h' (h'.update D (G8 (·.push (.ref s.heap.objs.size)))):=C9 ..
   have z2:us.size+1≤4096:=hz1▸A3 (B7 (A3 hlt (A3 (B3 hl) (R9 _ _))) l.length) hlen
   have K3:=X3.k0
   have ne:∀{a},a∈Z.own→a≠D:=fun m q=>(S.1.pt _ (hP _ m)).1 (q▸B9 hD)
   obtain ⟨I1,⟨a,b,I2⟩,I3,I4⟩:=S2
   obtain ⟨b',f1,o,f2⟩:=f1
   refine A1 (V5 L.o rfl (A5 ⟨W0 P8 _,?_⟩) (by refine wg M0 ?_;exact up (E8 z2) rfl) (by refine wg (V4 ..) (wg M0 ?_);exact B1 (up (E8 z2) rfl)))
   refine ih (T:=some T') (s:={s with heap:=_}) (hk.trans (G6 k m).symm) ⟨S3,S.2⟩ (CG (S.1.lt hD)) ⟨BG hs I1 (ne (.tail _ (.head _))),⟨a,b,BG hs I2 (ne (.tail _ (.tail _ (.head _))))⟩,I3.extBut hs.extBut (ne (.tail _ (.tail _ (.tail _ (.head _))))),I4.extBut hs.extBut (ne (.tail _ (.tail _ (.tail _ (.tail _ (.head _))))))⟩ ?_
    ((t1.up K).up K3) ((t2.up K).up K3) fun {s'} S' X'=>c (EP▸S') ((X.trans X3.up).trans X')
   refine ⟨b',BG hs f1 (ne (.head _)),?_⟩
   by_cases q:T'=D
   ·refine wg q ?_;exact ⟨_,F4 (G8 (·.push (.ref s.heap.objs.size))) L.o rfl⟩
   ·exact ⟨o,BG hs f2 q⟩
  ·have h2:=EO▸hlt
   rw[t1.z,t2.z] at h2
   exact fun {_} _=>absurd h2 (G4.mpr (hn.elim (fun h=>A3 (R9 ..) (P4.mp h)) fun h=>A3 (t8 ..) (P4.mp h)))
theorem ext_call {i n:Nat} {D:Addr} {l l1 l2:List V} {us us1 us2:Array Value} {Q:Value→Shared→Prop} (hh:A.handled=none) (hz:ZP Z) (hP:∀a∈Z.own,a∈ρ.p) (hD:ρ.l[i]?=some D) (hlen:l.length+l1.length≤4096) (S:RS g ρ hp s) (hf:hp.f i=some (.list l)) (L:IsL s.heap ρ l D us n)
  (S1:ZS s.heap Z 0) (f0:ZF s.heap Z none) (t1:IsT s.heap ρ l1 Z.a us1) (t2:IsT s.heap ρ l2 Z.b us2) (c:∀{s'},RS g ρ (hp.put i (.list (l++Co l1 l2))) s'→Ext Z.own ρ s.heap ρ s'.heap→Q .none s'):
  wpAny g.m A (call (.builtin "list.extend") [.ref D,.ref Z.z]) Q E s:=by
 have hT:s.TypeIs (.ref Z.z) "zip":=⟨_,f0,rfl⟩
 have ne:∀{a},a∈Z.own→a≠D:=fun m q=>(S.1.pt _ (hP _ m)).1 (q▸B9 hD)
 have hDz:D≠Z.z:=(ne (.head _)).symm
 refine wpAny_call (codeAny_call_builtin b8.plain F.entry_list_extend (b8.check _ _ _ _ _ _ _ _ ⟨_,L.o,rfl⟩ (F.args_list_extend_2 _ _) ?_))
 show wpAny _ A.in1 (AP (.ref D) (.ref Z.z) .none) _ _ s
 refine A1 (i1 hT ?_)
 refine wg (if_neg (by simp[j3,hDz])) ?_
 refine A1 (Eg f0 (A1 (D4 ?_)))
 refine A1 (V2 hT zip_no_len ?_)
 refine A1 (V2 hT zip_no_hint (A5 ?_))
 refine A1 (Q6 (A1 ?_))
 have z:=L.z
 have zs:us.size≤4096:=z▸A3 (C0 _ _) hlen
 refine A1 (V5 L.o rfl ?_ (by refine wg M0 ?_;exact up zs rfl) (by refine wg (V4 ..) (wg M0 ?_);exact B1 (up zs rfl)))
 refine an2 (RH.putList S.1 (f:=(·.push .none)) (l':=l++[.none]) hD L (by refine wg U9 ?_;exact L.r.app (.cons rfl .nil))) fun S2 X2=>?_
 refine lR (k:=fun zz=>True) S2 hD (by refine wg (CG (S.1.lt hD)) ?_;unfold pL;trivial) fun l' us' n' e L' zz=>?_
 rw[CG (S.1.lt hD)] at e;cases e
 have e2:=L'.o
 rw[F4 (G8 (·.push I5)) L.o rfl] at e2
 obtain rfl:us.push .none=us':=by injection e2 with e2;injection e2 with _ _ e2;injection e2
 refine V5 L'.o rfl (A5 ⟨W0 P8 _,?_⟩) (by refine wg (V4 ..) (wg M0 ?_);exact up (B1 zs) rfl) (by refine wg Array.size_pop (wg (V4 ..) (wg M0 ?_));exact up zs rfl)
 refine an2 (RH.putList (s:={s with heap:=_}) S2 (f:=(·.pop)) (l':=l) hD L' (by refine wg Array.pop_push ?_;exact L.r.keep X2.k0)) fun S3 X3=>?_
 have hs1:K5 D s.heap (s.heap.update D (G8 (·.push I5))):=C9 ..
 have hs2:K5 D (s.heap.update D (G8 (·.push I5))) ((s.heap.update D (G8 (·.push I5))).update D (G8 (·.pop))):=C9 ..
 have kp:∀{c o},c∈Z.own→s.heap.get? c=some o→((s.heap.update D (G8 (·.push I5))).update D (G8 (·.pop))).get? c=some o:=fun m e=>BG hs2 (BG hs1 e (ne m)) (ne m)
 obtain ⟨I1,⟨a,b,I2⟩,I3,I4⟩:=S1
 have X23:=X2.trans X3
 refine ext_loop (T:=none) (s:={s with heap:=_}) hh hz hP hD hlen (Co l1 l2).length (k:=0) (I0 _).symm ⟨S3,S.2⟩ (by exact wg (CG (by rw[DT];exact S.1.lt hD)) (wg List.take_zero (wg (D8 ..) rfl)))
  ⟨kp (.tail _ (.head _)) I1,⟨a,b,kp (.tail _ (.tail _ (.head _))) I2⟩,I3.at fun o e=>kp (.tail _ (.tail _ (.tail _ (.head _)))) e,I4.at fun o e=>kp (.tail _ (.tail _ (.tail _ (.tail _ (.head _))))) e⟩ (kp (.head _) f0) (t1.up X23.k0) (t2.up X23.k0) fun {s'} S' X'=>c (by rw[EP,EP] at S';exact S') (X23.up.trans X')
theorem n_extz {ex:List Expr} {mo:XE V} (hh:A.handled=none) (ho:NV g fd A o mo) (h:NAr g fd A es [a,b]) (B:BOk g fd y (.type "zip")) (he:EM o "extend" apos [.Call (.Name y ip) es [] ipos] pos fd.env) (he':CA (.Name y ip) es ipos fd.env):
  NV g fd A (.Call (.Attribute o "extend" apos) [.Call (.Name y ip) es [] ipos] [] pos) (xextz mo a b):=by
 intro s ρ lc hp K S F0 q Q E k
 obtain ⟨pl,he⟩:=he
 refine MethodCall_ (ho S F0 q fun {v hp1 u ρ1 s1} q S1 X1 r1=>?_) he
 obtain ⟨q1,q⟩:=q
 obtain ⟨t1,t2⟩:=rc_l S1 q1 r1
 refine getMethod_builtin t1 f9 b8 rfl t2 (z9 (by rfl) (keepM rfl) (CK (by rfl) (i3 ?_ rfl)))
 refine wg he' ?_
 refine A1 (B.name S1 (F0.ext S.1 X1) (DU h (keepM B.hf) S1 (F0.ext S.1 X1) (K:=fun vs hp=>a2 vs fun x y=>hL hp v fun a l=>vT x fun x=>vT y fun y=>l.length+x.length≤4096∧K .none (hp.put a (.list (l++Co x y)))) q fun {vs us hp2 ρ2 s2} q S2 X2 r2=>⟨trivial,?_⟩))
 refine e2 (C:=fun us=>wpAny _ _ (call _ us) _ _ _) q r2 fun v1 v2 u1 u2 r2 r3 q=>?_
 refine lE (C:=fun u=>wpAny g.m A (call (.type "zip") ([]++[u1,u2])) (fun z s=>wpAny g.m A (spliced (backTo pos (starEach [] fd.env))) (fun vs s=>True∧wpAny g.m A (call (.builtin "list.extend") ([u]++(z::vs))) Q E s) E s) E s2) S2.1 q (r1.keep X2.k0) fun i l D us n hD hf L q=>?_
 refine tE (C:=fun u=>wpAny _ _ (call _ [u,_]) _ _ _) q r2 fun l1 b1 us1 q T1=>tE (C:=fun u=>wpAny _ _ (call _ [_,u]) _ _ _) q r3 fun l2 b2 us2 q T2=>zip_call (BS T1.o) (BS T2.o) fun {h' n} hn sz hk P Z1 f0=>n7 ⟨trivial,?_⟩
 obtain ⟨S3,K3⟩:=S2.1.newPs (P:=(Zp.mk (n+4) (n+2) (n+3) n (n+1) b1 b2).own) hk (by refine wg sz (wh hn ?_);exact C0 n 5) (fun x m=>by refine wg sz (wh hn ?_);exact five m)
 have X3:=(S2.1.same hk (by refine wg sz (wh hn ?_);exact C0 n 5)).2
 have inP:∀a∈(Zp.mk (n+4) (n+2) (n+3) n (n+1) b1 b2).own,a∈(Zp.mk (n+4) (n+2) (n+3) n (n+1) b1 b2).own++ρ2.p:=fun a m=>D0 _ m
 have L3:IsL h' ⟨ρ2.l,(Zp.mk (n+4) (n+2) (n+3) n (n+1) b1 b2).own++ρ2.p⟩ l D us _:=⟨hk _ _ L.o,L.r.keep K3,L.z⟩
 refine ext_call (ρ:=⟨ρ2.l,(Zp.mk (n+4) (n+2) (n+3) n (n+1) b1 b2).own++ρ2.p⟩) (s:={s2 with heap:=h'}) hh P inP hD q.1 ⟨S3,S2.2⟩ hf L3 Z1 f0 (T1.up K3) (T2.up K3) fun {s'} S' X'=>?_
 exact k (ρ':=ρ2) q.2 ⟨S'.1.dropP.1,S'.2⟩ (((X1.trans X2).trans X3).transP (X'.re (p:=ρ2.p)) fun a m=>.inr (A3 (X1.trans X2).size (hn▸(five m).1))) rfl
end
noncomputable def RPs (h:Heap) (ρ:Rho):List (V×V)→List (Value×Value)→Prop
 | [],us=>us=[]
 | p::r,us=>∃u us',us=u::us'∧RV h ρ p.1 u.1∧RV h ρ p.2 u.2∧RPs h ρ r us'
section
variable {g:Gl} {fd:Fd} {A:Around} {E:Value→Shared→Prop} {s:Shared} {ρ ρ':Rho} {hp:Hp} {h h':Heap} {pos:Pos}
theorem RPs.keep (K:Bu h ρ h' ρ'):∀{l us},RPs h ρ l us→RPs h' ρ' l us:=by
 intro l
 induction l with
 | nil=>exact fun x=>x
 | cons p r ih=>exact fun x=>E9 (fun zz=>E9 fun zz w=>⟨w.1,w.2.1.keep K,w.2.2.1.keep K,ih w.2.2.2⟩) x
theorem RH.newDict (S:RH g ρ hp h):RH g ⟨ρ.l++[h.objs.size],ρ.p⟩ (hp.alloc (.dict true [])) (h.push {cls:= .type "dict",data:= .dict #[]})∧Ext [] ρ h ⟨ρ.l++[h.objs.size],ρ.p⟩ (h.push {cls:= .type "dict",data:= .dict #[]}):=
 S.newAt BC Bd (B2 _) Cy fun zz=>⟨#[],0,B0 _ rfl,rfl,nofun,.nil,fun zz=>rfl⟩
noncomputable def NPs (g:Gl) (fd:Fd) (A:Around) (pos:Pos) (ks:List (Option Expr)) (vs:List Expr) (ms:List (XE V×XE V)):Prop:=∀{s ρ lc hp K},RS g ρ hp s→RF g fd ρ lc s.heap→xpairs ms lc hp K→∀{Q E},(∀{l hp us ρ' s'},K l hp→RS g ρ' hp s'→Ext [] ρ s.heap ρ' s'.heap→RPs s'.heap ρ' l us→Q us s')→wpAny g.m A (evalPairs (pairTrees ks vs fd.env pos)) Q E s
theorem ps_nil:NPs g fd A pos [] [] []:=fun S F q zz zz k=>evalPairs_nil (k q S .refl rfl)
theorem ps_cons {k v:Expr} {ks vs ms} {a b:XE V} (h1:NV g fd A k a) (h2:NV g fd A v b) (h3:NPs g fd A pos ks vs ms):NPs g fd A pos (some k::ks) (v::vs) ((a,b)::ms):=fun S F q zz zz k=>
 evalPairs_cons (h1 S F q fun q S1 X1 r1=>A1 (h2 S1 (F.ext S.1 X1) q fun q S2 X2 r2=>A1 (O8 (A5 (h3 S2 ((F.ext S.1 X1).ext S1.1 X2) q fun q S3 X3 r3=>
  k q S3 (X1.trans (X2.trans X3)) ⟨_,_,rfl,(r1.keep X2.k0).keep X3.k0,r2.keep X3.k0,r3⟩)))))
theorem Hq {n i:Nat} {d:Addr} (hA:Rm A n):∀{l:List (V×V)} {us:List (Value×Value)} {s:Shared} {ρ:Rho} {hp:Hp} {N:Hp→Prop},RS g ρ hp s→ρ.l[i]?=some d→RPs s.heap ρ l us→Hk i l hp N→∀{Q:PUnit→Shared→Prop},(∀{hp' s'},N hp'→RS g ρ hp' s'→Ext [] ρ s.heap ρ s'.heap→Q ⟨⟩ s')→wpAny g.m A (storeAll d us) Q E s:=by
 intro l
 induction l with
 | nil=>
  intro us s ρ hp N S hi r q Q k
  cases show us=[] from r
  unfold storeAll
  refine wg o7 ?_
  exact A5 (k q S .refl)
 | cons p l ih=>
  rintro _ s ρ hp N S hi ⟨u,us,rfl,r1,r2,r3⟩ q Q k
  unfold storeAll
  refine wg (Y4 ..) ?_
  refine A1 (A1 ?_)
  replace q:pD (hp.f i) fun b d=>Br d p.1∧Hk i l (hp.put i (.dict b (Bc d p.1 p.2))) N:=q
  cases e:hp.f i with
  | none=>rw[e] at q;unfold pD at q;exact q.elim
  | some o=>
   cases o with
   | dict b d0=>
    rw[e] at q
    unfold pD at q
    exact dR S.1 hi e fun es m D=>HH S (by have:=hA.un;exact un this rfl) hi D q.1 r1 r2 fun h' tk S' X'=>A5 (ih S' hi (r3.keep X'.k0) q.2 fun q S2 X2=>k q S2 (X'.trans X2))
   | _=>rw[e] at q;unfold pD at q;exact q.elim
theorem n_dict {n:Nat} {k:Option Expr} {ks:List (Option Expr)} {vs:List Expr} {ms:List (XE V×XE V)} (hA:Rm A n) (h:NPs g fd A pos (k::ks) vs ms) (hall:(k::ks).all (·.isSome)=true) (hl:(k::ks).length=vs.length) (hlen:(k::ks).length≤15):NV g fd A (.Dict (k::ks) vs pos) (Bx ms):=by
 intro s ρ lc hp K S F q Q E kk
 refine an2 S.1.newDict fun S1 X1=>?_
 refine wpAny_Dict_any hall hl nofun hlen (h (s:={s with heap:=_}) ⟨S1,S.2⟩ (F.ext S.1 X1) q fun q S2 X2 r2=>Hq hA S2 (X2.idx S.1.at_) r2 q fun q S3 X3=>kk q S3 (X1.trans (X2.trans X3)) ⟨_,rfl,X3.idx (X2.idx S.1.at_)⟩)
theorem n_dict0:NV g fd A (.Dict [] [] pos) (Bx []):=by
 intro s ρ lc hp K S F q Q E k
 refine an2 S.1.newDict fun S1 X1=>?_
 exact wpAny_Dict_empty (k (s:={s with heap:=_}) q ⟨S1,S.2⟩ X1 ⟨_,rfl,S.1.at_⟩)
end
section
variable {h h':Heap} {ρ ρ2:Rho} {t p:List Addr} {hp hp' hp1:Hp} {g:Gl}
structure GA (ρ ρ2:Rho) (t:List Addr):Prop where
 l:ρ2.l=ρ.l++t
 p:ρ2.p=ρ.p
theorem GA.ni (T:GA ρ ρ2 t) {a:Addr} (n:ρ2.ni a):ρ.ni a:=⟨fun m=>n.1 (T.l▸D0 _ m),fun m=>n.2 (T.p▸m)⟩
theorem GA.at (T:GA ρ ρ2 t) {j:Nat} {a:Addr} (hj:j<ρ.l.length) (e:ρ2.l[j]?=some a):ρ.l[j]?=some a:=by rw[T.l,J7 hj] at e;exact e
set_option tactic.hygienic true in
theorem RV.cut (T:GA ρ ρ2 t):∀{v:V} {u:Value},V.bd ρ.l.length v→RV h ρ2 v u→RV h ρ v u:=by
 intro v
 induction v using V.rec (motive_2:=fun l=>∀{us},V.bds ρ.l.length l→RVs h ρ2 l us→RVs h ρ l us) with
 | loc j=>exact fun hj x=>E9 (fun zz w=>⟨w.1,T.at hj w.2⟩) x
 | tup l ih=>exact fun b x=>E9 (fun zz=>E9 fun zz w=>⟨w.1,⟨w.2.1.1,T.ni w.2.1.2⟩,ih b w.2.2⟩) x
 | lst l ih=>exact fun b x=>E9 (fun zz=>E9 fun zz=>E9 fun zz w=>⟨w.1,⟨w.2.1.1,T.ni w.2.1.2⟩,ih b w.2.2⟩) x
 | nil=>assumption
 | cons v l ihv ihl=>rename_i us b r;refine CE r fun u us e r1 r2=>?_;clear r;exact ⟨u,us,e,ihv b.1 r1,ihl b.2 r2⟩
 | _=>exact fun zz r=>r
theorem RVs.cut (T:GA ρ ρ2 t):∀{l:List V} {us:List Value},V.bds ρ.l.length l→RVs h ρ2 l us→RVs h ρ l us:=by
 intro l
 induction l with
 | nil=>exact fun zz r=>r
 | cons v l ih=>exact fun b x=>E9 (fun zz=>E9 fun zz w=>⟨w.1,w.2.1.cut T b.1,ih b.2 w.2.2⟩) x
set_option tactic.hygienic true in
theorem RV.bd:∀{v:V} {u:Value},RV h ρ v u→V.bd ρ.l.length v:=by
 intro v
 induction v using V.rec (motive_2:=fun l=>∀{us},RVs h ρ l us→V.bds ρ.l.length l) with
 | loc j=>exact fun x=>U1 x fun zz w=>(B6.mp w.2).1
 | tup l ih=>exact fun x=>U1 x fun zz w=>w.elim fun zz w=>ih w.2.2
 | lst l ih=>exact fun x=>U1 x fun zz w=>w.elim fun zz w=>w.elim fun zz w=>ih w.2.2
 | nil=>exact trivial
 | cons v l ihv ihl=>rename_i us r;refine CE r fun u us e r1 r2=>?_;clear r;exact ⟨ihv r1,ihl r2⟩
 | _=>exact fun zz=>trivial
theorem RVs.bd:∀{l:List V} {us:List Value},RVs h ρ l us→V.bds ρ.l.length l:=by
 intro l
 induction l with
 | nil=>exact fun zz=>trivial
 | cons v l ih=>exact fun x=>U1 x fun zz w=>w.elim fun zz w=>⟨w.2.1.bd,ih w.2.2⟩
theorem Cv.cut (T:GA ρ ρ2 t) (S:RH g ρ2 hp' h) {v v':V} {u:Value} (c:Cv ρ.l.length hp' v v') (r:RV h ρ2 v u):RV h ρ v' u:=by
 rcases c with ⟨rfl,b⟩ | ⟨a,l,rfl,e,rfl,ha,b⟩
 ·exact r.cut T b
 ·refine BD r fun A hh1 q=>?_;clear r;obtain rfl:=hh1
  exact lR (k:=fun zz=>True) (C:=RV h ρ (.lst l) (.ref A)) S q (by refine wg e ?_;unfold pL;trivial) fun l' us n e' L zz=>by
   rw[e] at e';cases e'
   have m2:=B9 q
   refine ⟨A,us,n,rfl,⟨L.o,fun m=>?_,fun m=>(S.pt A (T.p▸m)).1 m2⟩,L.r.cut T b⟩
   refine ex1 (AM m) fun j hh=>?_;refine ex1 hh fun hj e=>?_;clear hh
   have:ρ2.l[j]?=some A:=by exact wg T.l (wg (J7 hj) (wg (B4 hj) (wg e rfl)))
   exact absurd (S.one this q) (E4 (A9 hj ha))
theorem BQ.cut (T:GA ρ ρ2 t) {h0:Heap}:∀{l:List (V×V)} {es es0:List DictEntry},BQ g.w h ρ2 l es→BQ g.w h0 ρ l es0→BQ g.w h ρ l es:=by
 intro l
 induction l with
 | nil=>exact fun r zz=>r
 | cons p l ih=>exact fun x y=>U1 y fun zz y=>y.elim fun zz y=>E9 (fun e=>E9 fun es x=>⟨x.1,⟨x.2.1.1,x.2.1.2.1.cut T y.2.1.2.1.bd,x.2.1.2.2.cut T y.2.1.2.2.bd⟩,ih x.2.2 y.2.2⟩) x
theorem CQ.cut (T:GA ρ ρ2 t) {h0:Heap}:∀{l:List V} {xs ys:List Str} {es es0:List DictEntry},CQ h ρ2 xs l es→CQ h0 ρ ys l es0→CQ h ρ xs l es:=by
 intro l
 induction l with
 | nil=>exact fun r zz=>r
 | cons p l ih=>exact fun x y=>U1 y fun zz y=>y.elim fun zz y=>y.elim fun zz y=>y.elim fun zz y=>y.elim fun zz y=>E9 (fun zz=>E9 fun zz=>E9 fun zz=>E9 fun zz=>E9 fun zz x=>⟨x.1,x.2.1,x.2.2.1,x.2.2.2.1.cut T y.2.2.2.1.bd,ih x.2.2.2.2 y.2.2.2.2⟩) x
theorem RO.cut (T:GA ρ ρ2 t) {a:Addr}:∀{o:PO},RO g h ρ2 a o→(∀h0,RO g h0 ρ a o→RO g h ρ a o):=by
 intro o
 cases o with
 | list l=>exact fun x zz y=>U1 y fun zz y=>y.elim fun zz y=>E9 (fun zz=>E9 fun zz x=>⟨x.1,x.2.cut T y.2.bd⟩) x
 | dict b l=>exact fun x zz y=>U1 y fun zz y=>y.elim fun zz y=>E9 (fun zz=>E9 fun zz x=>⟨x.1,x.2.1.cut T y.2.1,x.2.2⟩) x
 | inst c d=>exact fun x zz y=>U1 y fun zz y=>E9 (fun zz x=>⟨T.at (B6.mp y.1).1 x.1,x.2⟩) x
 | ns c l=>exact fun x zz y=>U1 y fun zz y=>y.elim fun zz y=>E9 (fun zz=>E9 fun zz x=>⟨x.1,x.2.1.cut T y.2.1,x.2.2⟩) x
theorem RH.cut (T:GA ρ ρ2 t) (S0:RH g ρ hp h) (S:RH g ρ2 hp' h') {v v':V} (c:Cut hp hp' hp1 v v'):RH g ρ hp1 h':=by
 refine ⟨S0.len.trans c.n.symm,S0.nodup,fun i o e=>?_,fun a m=>S.nt a (T.l▸D0 _ m),fun a m=>have q:=S.pt a (T.p▸m);⟨fun m=>q.1 (T.l▸D0 _ m),q.2⟩,S.base,S.size⟩
 have hi:i<hp.length:=c.n▸DF e
 rcases c.c i hi with ⟨h1,h2⟩ | ⟨b,d,d',h1,h2,hz,hd⟩
 ·rw[h2] at e
  refine BD (S0.objs i o e) fun a e1 r1=>?_
  refine BD (S.objs i o (h1.trans e)) fun a' e2 r2=>?_
  cases e1.symm.trans (T.at (S0.len▸hi) e2)
  exact ⟨a,e1,r2.cut T h r1⟩
 ·rw[h2] at e;cases e
  obtain ⟨a,e2,es,n,o,r,q1,q2,q3⟩:=S.objs i _ h1
  have keys:d'.map (·.1)=d.map (·.1):=W4 (by exact wg (A4 ..) (wg (A4 ..) (wg hz rfl))) fun j h1 h2=>by
   rw[A4] at h1 h2
   obtain ⟨x,e0,_⟩:=hd j _ (B4 h2)
   exact wg (M4 ..) (wg (M4 ..) (wg ((B6.mp e0).2) rfl))
  refine ⟨a,T.at (S0.len▸hi) e2,es,n,o,?_,fun p m=>?_,keys▸q2,q3⟩
  ·clear q2 q3 o h1 h2 keys
   have:∀{d d':List (V×V)} {es:List DictEntry},d.length=d'.length→(∀(j:Nat) p,d[j]?=some p→∃x,d'[j]?=some (p.1,x)∧Cv hp.length hp' p.2 x)→(∀p∈d,V.key 8 p.1=true)→BQ g.w h' ρ2 d es→BQ g.w h' ρ d' es:=by
    intro d
    induction d with
    | nil=>
     intro d' es hz _ _ r
     cases d' with
     | nil=>exact r
     | cons _ _=>cases hz
    | cons p d ih=>
     rintro d' es hz hd hk ⟨e,es',q,⟨a1,a2,a3⟩,r⟩
     cases d' with
     | nil=>cases hz
     | cons p' d'=>
      refine BD (hd 0 p rfl) fun x e0 cx=>?_
      cases e0
      rw[←S0.len] at cx
      exact ⟨e,es',q,⟨a1,a2.cut T (ok_bd 8 _ (hk p (.head _))),cx.cut T S a3⟩,ih (Q3 hz) (fun j p h=>hd (j+1) p h) (fun p m=>hk p (.tail _ m)) r⟩
   exact this hz hd q1 r
  ·have:=H1 (f:=(·.1)) m
   rw[keys] at this
   refine BD (B5.mp this) fun p' m' e=>?_
   exact e▸q1 p' m'
end
theorem dpw {a n w:Nat} (h:a+3*(n+1)≤990) (e:w≤3):a+w+3*n≤990:=by
 rw[Nat.mul_succ] at h
 refine A3 ?_ h
 refine wg (M2 ..) ?_;rewrite[P7 w];exact B7 (B7 e _) _
noncomputable def Ev (fd:FuncData) (L:Addr):List (Str×Addr):=cellsFrom (L+1) fd.scope.names []
noncomputable def GV (fd:FuncData) (names:List Str) (L f:Addr):Fd:=⟨callEnvC fd L f,names,L::(Ev fd L).filterMap fun p=>(Ev fd L).lookup p.1⟩
noncomputable def Rn (A:Around) (n:Nat):Prop:=Rm A n∧A.units+15*n+202≤cLine
theorem bindL_other {kindOf:Str→Option NameKind}:∀{bs:List (Str×Value)} {m:Str→Option Value} {x:Str},x∉bs.map (·.1)→bindL kindOf bs m x=m x:=by
 intro bs
 induction bs with
 | nil=>exact fun zz=>rfl
 | cons b r ih=>
  intro m x h
  have h1:x≠b.1:=fun q=>h (q▸.head _)
  have h2:x∉r.map (·.1):=fun m=>h (.tail _ m)
  refine (ih h2).trans ?_
  split
  ·exact if_neg h1
  ·rfl
theorem bindC_other {kindOf:Str→Option NameKind}:∀{bs:List (Str×Value)} {m:Str→Option Value} {x:Str},x∉bs.map (·.1)→bindC kindOf bs m x=m x:=by
 intro bs
 induction bs with
 | nil=>exact fun zz=>rfl
 | cons b r ih=>
  intro m x h
  have h1:x≠b.1:=fun q=>h (q▸.head _)
  have h2:x∉r.map (·.1):=fun m=>h (.tail _ m)
  refine (ih h2).trans ?_
  split
  ·rfl
  ·exact if_neg h1
theorem bindL_at {kindOf:Str→Option NameKind} {x:Str} {v:Value} (hk:kindOf x=some .local):∀{bs:List (Str×Value)} {m:Str→Option Value} {i:Nat},(bs.map (·.1)).Nodup→bs[i]?=some (x,v)→bindL kindOf bs m x=some v:=by
 intro bs
 induction bs with
 | nil=>exact fun zz e=>nomatch e
 | cons b r ih=>
  intro m i nd e
  have nd:=O5.mp nd
  cases i with
  | zero=>
   cases e
   refine (bindL_other nd.1).trans ?_
   refine wg (if_pos hk) ?_
   exact if_pos rfl
  | succ i=>exact ih nd.2 e
theorem bindC_at {kindOf:Str→Option NameKind} {x:Str} {v:Value} (hk:kindOf x≠some .local):∀{bs:List (Str×Value)} {m:Str→Option Value} {i:Nat},(bs.map (·.1)).Nodup→bs[i]?=some (x,v)→bindC kindOf bs m x=some v:=by
 intro bs
 induction bs with
 | nil=>exact fun zz e=>nomatch e
 | cons b r ih=>
  intro m i nd e
  have nd:=O5.mp nd
  cases i with
  | zero=>
   cases e
   refine (bindC_other nd.1).trans ?_
   refine wg (if_neg hk) ?_
   exact if_pos rfl
  | succ i=>exact ih nd.2 e
theorem Dj {x:Str}:∀{names:List (Str×NameKind)} {n:Nat} {acc:List (Str×Addr)},names.lookup x=some .cell∨(acc.lookup x).isSome=true→((cellsFrom n names acc).lookup x).isSome=true:=by
 intro names
 induction names with
 | nil=>exact fun h=>h.elim nofun id
 | cons p r ih=>
  obtain ⟨y,k⟩:=p
  intro n acc h
  unfold cellsFrom
  rw[a0] at h
  split
  ·refine ih ?_
   cases hb:x==y with
   | true=>right;refine wg a0 (wg hb ?_);rfl
   | false=>rw[hb] at h;refine wg a0 (wg hb ?_);exact h
  ·rename_i hk
   refine ih ?_
   cases hb:x==y with
   | true=>
    rw[hb] at h
    exact .inr (h.elim (fun q=>by cases q;exact absurd rfl hk) id)
   | false=>rw[hb] at h;exact h
theorem pad_get {v:V}:∀{k:Nat} {vs:List V} {i:Nat},DM (pad k vs) i=some v→vs[i]?=some v:=by
 have base:∀{vs:List V} {i:Nat},DM (vs.map some) i=some v→vs[i]?=some v:=by
  intro vs
  induction vs with
  | nil=>exact fun e=>nomatch e
  | cons w r ih=>exact fun {i} e=>match i,e with
   | 0,e=>e
   | i+1,e=>ih (i:=i) e
 intro k
 induction k with
 | zero=>exact base
 | succ k ih=>
  intro vs i e
  cases vs with
  | nil=>
   cases i with
   | zero=>cases e
   | succ i=>cases ih (vs:=[]) (i:=i) e
  | cons w r=>
   cases i with
   | zero=>exact e
   | succ i=>exact ih (i:=i) e
structure DefOk (K:Frag) (f:Addr) (o:Obj) (fd:FuncData) (body:List Stmt) (ps names:List Str):Prop where
 hK:K.lookup f=some o
 hd:o.data= .func fd
 hcd:codeIn K fd.code fd.qualname=true
 hbody:fd.body= .stmts body
 hclo:fd.closure=[]
 hgl:fd.globals=mainGlobals
 hbt:fd.builtins=builtinsNs
 hbind:∀vals:List Value,vals.length=ps.length→bindArgs fd ⟨vals,[]⟩=pure (ps.zip vals)
 hps:names.take ps.length=ps
 hnd:names.Nodup
 hkind:∀x∈ps,fd.scope.names.lookup x=some .local∨fd.scope.names.lookup x=some .cell
 hk:fd.scope.kind= .function
 hco:fd.scope.isCoroutine=false
 hgen:fd.scope.isGenerator=false
section
variable {g:Gl} {f:Addr} {o:Obj} {fd:FuncData} {body:List Stmt} {n:Nat} {ps names:List Str} {m:XS}
theorem run_def {A:Around} {s:Shared} {ρ:Rho} {hp:Hp} {args:List V} {us:List Value} {K:KV} {R:Result→Shared→Prop} (D:DefOk g.K f o fd body ps names) (h:∀{A:Around} {L:Addr},Rn A n→NS g (GV fd names L f) A (execs body (callEnvC fd L f)) m)
  (hA:Rm A (n+1)) (S:RS g ρ hp s) (r:RVs s.heap ρ args us) (hal:args.length=ps.length) (q:m (pad names.length args) hp (fun zz hp=>K .none hp) K) (k:Fin g ρ s.heap K (fun u s=>R (.ok (.ret u)) s)):codeAny g.m A (.call (.ref f) ⟨us,[]⟩) R s:=by
 have hul:us.length=ps.length:=by exact wh r.len (wg hal rfl)
 have hzl:(ps.zip us).map (·.1)=ps:=List.map_fst_zip (B3 hul.symm)
 have psnd:ps.Nodup:=D.hps▸D.hnd.sublist (List.take_sublist _ _)
 refine codeAny_call_cells (fd:=fd) (body:=body) (C2 (A3 (C0 _ _) hA.2.1) (by decide)) ((g.KX.keeps S.1.base) _ _ D.hK) D.hd (g.T.nolimit.keeps S.1.base) (codeRec_of (g.KX.keeps S.1.base) D.hcd) D.hbody (D.hbind us hul) D.hclo
  (fun x hx=>?_) (fun s₁ I=>?_) D.hco D.hgen D.hk
 ·have hx':x.1∈ps:=by refine wh hzl ?_;exact H1 hx
  exact (D.hkind _ hx').imp id fun h1=>⟨h1,Dj (.inl h1)⟩
 ·have hfr:=I.toInCall.fresh
  refine ex2 I.toInCall.same fun h1 tk e1=>?_
  subst e1
  have hns:=I.toInCall.ns
  have hLlt:s.heap.objs.size<h1.objs.size:=by refine xa32 hns fun oL zz zz hL zz=>?_;clear hns;exact G1 hL
  have hk:∀b o,s.heap.get? b=some o→h1.get? b=some o:=fun b o e=>I.toInCall.keep b o e
  refine an2 (S.1.same hk (D9 hLlt)) fun S' X=>?_
  have cm:∀{x:Str} {c:Addr},(x,c)∈Ev fd s.heap.objs.size→s.heap.objs.size<c:=fun hm=>I.above _ _ hm
  have inC:∀{x:Str} {c:Addr},(Ev fd s.heap.objs.size).lookup x=some c→c∈(GV fd names s.heap.objs.size f).own:=fun e=>.tail _ (AZ.mpr ⟨_,mem_of_lookup e,e⟩)
  have fresh:∀a∈(GV fd names s.heap.objs.size f).own,s.heap.objs.size≤a∧a<h1.objs.size:=fun a m=>by
   rcases C4.mp m with rfl | m
   ·exact ⟨B2 _,hLlt⟩
   ·refine BD (AZ.mp m) fun p zz e=>?_
    exact ⟨D9 (cm (mem_of_lookup e)),(I.cell _ _ e).lt⟩
  refine an2 (S.1.newPs hk (D9 hLlt) fresh) fun S1 K1=>?_
  have X:=(S.1.same hk (D9 hLlt)).2
  have FF:RF g (GV fd names s.heap.objs.size f) ⟨ρ.l,(GV fd names s.heap.objs.size f).own++ρ.p⟩ (pad names.length args) h1:=by
   refine ⟨D.hk,D.hgl,D.hbt,⟨_,hns,fun i v hi=>?_⟩,fun x c hc=>?_,.head _,fun a m=>D0 _ m,D.hnd⟩
   ·refine BD (r.get (pad_get hi)) fun u hu ru=>?_
    have hil:i<ps.length:=hul▸(B6.mp hu).1
    have hpi:ps[i]?=some ps[i]:=B4 hil
    have hni:names[i]?=some ps[i]:=by
     refine wh hpi ?_
     conv=>rhs;rw[←D.hps]
     exact wg List.getElem?_take (wg (if_pos hil) rfl)
    have hz:(ps.zip us)[i]?=some (ps[i],u):=List.getElem?_zip_eq_some.mpr ⟨hpi,hu⟩
    refine ⟨ps[i],hni,?_⟩
    rcases D.hkind _ (N2 hil) with h2 | h2
    ·exact .inl ⟨h2,u,bindL_at h2 (hzl.symm▸psnd) hz,ru.keep K1⟩
    ·refine ex1 (Option.isSome_iff_exists.mp (Dj (names:=fd.scope.names) (n:=s.heap.objs.size+1) (acc:=[]) (.inl h2))) fun c hc=>?_
     have hb:=I.cell _ _ hc
     rw[bindC_at (by show fd.scope.names.lookup _≠_;refine wg h2 ?_;exact nofun) (hzl.symm▸psnd) hz] at hb
     exact .inr ⟨h2,c,u,hc,hb,ru.keep K1⟩
   ·exact ⟨⟨_,I.cell _ _ hc⟩,fun q=>N9 _ (AY (cm (mem_of_lookup hc)) q),D0 _ (inC hc),fun y hy=>name_of_addr I.apart (mem_of_lookup hy) (mem_of_lookup hc)⟩
  have hA':Rn (A.deeper (callEnvC fd s.heap.objs.size f)) n:=⟨⟨hA.1,dp hA.2.1,du hA.2.2 (by decide)⟩,du2 hA.2.2⟩
  have fin:∀{v:V} {u:Value} {hp2:Hp} {ρ2:Rho} {s2:Shared},K v hp2→RS g ρ2 hp2 s2→Ext (GV fd names s.heap.objs.size f).own ⟨ρ.l,(GV fd names s.heap.objs.size f).own++ρ.p⟩ h1 ρ2 s2.heap→RV s2.heap ρ2 v u→R (.ok (.ret u)) s2:=fun {v u hp2 ρ2 s2} q S2 X2 r2=>by
   obtain ⟨l2,p2⟩:=ρ2
   cases show p2=_ from X2.p
   refine an2 S2.1.dropP fun S3 K3=>?_
   exact k q ⟨S3,S2.2⟩ (X.transP (X2.re (p:=ρ.p)) fun a m=>.inr (fresh a m).1) (r2.keep K3)
  refine h hA' (s:={s with heap:=h1,toks:=tk}) ⟨S1,S.2⟩ FF q ?_ ?_
  ·exact fun q S2 F2 X2=>fin q S2 X2 rfl
  ·exact fun q S2 X2 r2=>fin q S2 X2 r2
theorem c_def (D:DefOk g.K f o fd body ps names) (h:∀{A:Around} {L:Addr},Rn A n→NS g (GV fd names L f) A (execs body (callEnvC fd L f)) m):NC g (.ref f) (n+1) (fnOf names.length ps.length m):=
 fun hA S r q zz k=>run_def D h hA S r q.1 q.2 k
theorem c_defT (D:DefOk g.K f o fd body ps names) (h:∀{A:Around} {L:Addr},Rn A n→NS g (GV fd names L f) A (execs body (callEnvC fd L f)) m):NC g (.ref f) (n+1) (fnT names.length ps.length m):=by
 intro A s ρ hp args us K hA S r q R k
 refine run_def D h hA S r q.1 q.2 fun {v hp' u ρ2 s2} q S2 X2 r2=>?_
 obtain ⟨v',hp1,c,q⟩:=q
 obtain ⟨t,e,_⟩:=X2.pre
 have T:GA ρ ρ2 t:=⟨e,X2.p⟩
 exact k q ⟨RH.cut T S.1 S2.1 c,S2.2⟩ ⟨Ext.refl.pre (own:=[]) (h:=s.heap),rfl,X2.size,X2.keep⟩ (Cv.cut T S2.1 (S.1.len▸c.v) r2)
theorem c_class {C fI:Addr} {fn:Fn} (hm:makesIn g.K C=true) (hi:findIn g.K (.ref C) "__init__"=some (some (.ref fI))) (hf:typeIn g.K (.ref fI)=some (.type "function")) (hnd:(g.fl C).Nodup) (h:NC g (.ref fI) n fn):NC g (.ref C) (n+1) (HE C fn):=by
 intro A s ρ hp args us K hA S r q R k
 obtain ⟨hh,gg,d,t,os⟩:=s
 have X:=g.KX.keeps S.1.base
 have hA':Rm (A.under (.builtin "type.__call__" ⟨.ref C::us,[]⟩)) n:=by
  refine ⟨hA.1,?_,?_⟩
  ·show A.depth+Code.weight _+3*n≤990
   have:Code.weight (.builtin "type.__call__" ⟨.ref C::us,[]⟩)≤2:=A6 (by kernel_rfl)
   exact dpw hA.2.1 (up this rfl)
  ·show A.units+Code.cUnits _+15*n+200≤cLine
   have:Code.cUnits (.builtin "type.__call__" ⟨.ref C::us,[]⟩)≤4:=A6 (by kernel_rfl)
   exact du hA.2.2 (up this rfl)
 refine make_core (makes_of X hm) (looks_findIn X hi) (fun self=>bind_fn X self hf) (.inl rfl) ?_
 refine an2 (S.1.newAt (a:=hh.objs.size) (po:= .ns C []) (h':=hh.push emptyDict) BC Bd (B2 _) Cy fun zz=>⟨[],0,B0 _ rfl,rfl,hnd,E2 _⟩) fun S1 X1=>?_
 have hsz:(hh.push emptyDict).objs.size=hh.objs.size+1:=H8 ..
 refine an2 (S1.newAt (a:=(hh.push emptyDict).objs.size) (po:= .inst C hp.n) (h':=(hh.push emptyDict).push (instObj C hh.objs.size)) BC Bd (B2 _) Cy fun K=>⟨_,K.p S.1.at_,B0 _ rfl⟩) fun S2 X2=>?_
 have hself:(⟨ρ.l++[hh.objs.size]++[(hh.push emptyDict).objs.size],ρ.p⟩:Rho).l[hp.n+1]?=some (hh.push emptyDict).objs.size:=by
  have:=S1.at_ (a:=(hh.push emptyDict).objs.size)
  rw[show (hp.alloc (.ns C [])).length=hp.n+1 from A7] at this
  exact this
 have X12:=X1.trans X2
 rw[hsz] at S2 X2 hself X12
 refine h hA' (s:=⟨_,gg,d,t,os⟩) ⟨S2,S.2⟩ (.cons (v:= .loc (hp.n+1)) ⟨_,rfl,hself⟩ (r.keep X12.k0)) q fun {v hp' u ρ' s'} q S' X' ru=>?_
 obtain ⟨rfl,q⟩:=q
 cases show u= .none from ru
 exact ⟨rfl,k q S' (X12.trans X') ⟨_,rfl,X'.idx hself⟩⟩
end
section
variable {n:Nat} {rk:Nat→Int} {α β:Type}
noncomputable def tw (n:Nat) (rk:Nat→Int):KasT α→(α→Prop)→Prop
 | .ret a,Q=>Q a
 | .ask i j k,Q=>(i<n∧j<n)∧tw n rk (k (decide (rk i<rk j))) Q
theorem Ew {f:α→KasT β} {Q:β→Prop}:∀{t:KasT α},tw n rk t (fun a=>tw n rk (f a) Q)→tw n rk (t.bind f) Q:=by
 intro t
 induction t with
 | ret a=>exact fun h=>h
 | ask i j k ih=>exact fun h=>⟨h.1,ih _ h.2⟩
theorem tw_kas {cmp:Nat→Nat→(Bool→Shared→Prop)→Shared→Prop} {s:Shared} {G:α→Shared→Prop} (hc:∀i j (C:Bool→Shared→Prop),i<n→j<n→C (decide (rk i<rk j)) s→cmp i j C s):∀{t:KasT α},tw n rk t (fun a=>G a s)→t.kasWp cmp G s:=by
 intro t
 induction t with
 | ret a=>exact fun h=>h
 | ask i j k ih=>exact fun h=>hc i j _ h.1.1 h.1.2 (ih _ h.2)
theorem tw_and {P:Prop} {Q:α→Prop} (hP:P):∀{t:KasT α},tw n rk t Q→tw n rk t (fun a=>P∧Q a):=by
 intro t
 induction t with
 | ret a=>exact fun h=>⟨hP,h⟩
 | ask i j k ih=>exact fun h=>⟨h.1,ih _ h.2⟩
theorem GW {i j:Nat} {k:Bool→KasT α} {Q:α→Prop} (h:i<n∧j<n) (h1:rk i<rk j→tw n rk (k true) Q) (h2:rk j≤rk i→tw n rk (k false) Q):tw n rk (.ask i j k) Q:=by
 refine ⟨h,?_⟩
 by_cases c:rk i<rk j
 ·refine wg (decide_eq_true c) ?_;exact h1 c
 ·refine wg (decide_eq_false c) ?_;exact h2 (j9.mp c)
noncomputable def Kp (rk:Nat→Int) (p:Array Nat) (i:Nat):Int:=rk (p.getD i 0)
noncomputable def Sp (rk:Nat→Int) (p:Array Nat) (m:Nat):Prop:=∀i j,i≤j→j<m→Kp rk p i≤Kp rk p j
noncomputable def Dn (rk:Nat→Int) (p:Array Nat) (m:Nat):Prop:=∀i j,i<j→j<m→Kp rk p j<Kp rk p i
structure FZ (n:Nat) (p:Array Nat):Prop where
 z:0<n
 a:∀x∈p,x<n
variable {p q:Array Nat}
theorem FZ.at (h:FZ n p) (i:Nat):p.getD i 0<n:=by
 unfold Array.getD
 split
 ·exact h.a _ (Array.getElem_mem _)
 ·exact h.z
theorem FZ.two (h:FZ n p) {i j:Nat}:p.getD i 0<n∧p.getD j 0<n:=⟨h.at i,h.at j⟩
theorem FZ.perm (h:FZ n p) (hp:q.Perm p):FZ n q:=⟨h.z,fun x hx=>h.a x (hp.mem_iff.mp hx)⟩
theorem EB {i j:Nat} (h:p[i]?=q[j]?):Kp rk p i=Kp rk q j:=by
 unfold Kp;exact wg Q7 (wg Q7 (wg h rfl))
theorem Sp.one:Sp rk p 1:=fun i j h1 h2=>by
 obtain rfl:j=0:=a7.mp h2
 obtain rfl:i=0:=AA.mp h1
 exact H3 _
theorem Sp.succ {m:Nat} (h:Sp rk p (m+1)) (c:Kp rk p m≤Kp rk p (m+1)):Sp rk p (m+2):=fun i j h1 h2=>by
 rcases c5 (E6 h2) with h3 | rfl
 ·exact h i j h1 h3
 ·rcases c5 h1 with h4 | rfl
  ·exact N7 (h i m (E6 h4) (G7 _)) c
  ·exact H3 _
theorem asc_tw (hL:FZ n p):∀{f m:Nat} {Q:Nat→Prop},Sp rk p (m+1)→(∀m',m≤m'→m'≤m+f→Sp rk p (m'+1)→(m'=m+f∨Kp rk p (m'+1)<Kp rk p m')→Q (m'+1))→tw n rk (kas_asc p f (m+1)) Q:=by
 intro f
 induction f with
 | zero=>exact fun hs h=>h _ (B2 _) (B2 _) hs (.inl rfl)
 | succ f ih=>
  intro m Q hs h
  refine GW hL.two (fun c=>?_) fun c=>?_
  ·exact h m (B2 _) (C0 _ _) hs (.inr c)
  ·exact ih (hs.succ c) fun m' h1 h2 h3 h4=>h m' (E8 h1) (by refine wh (G6 ..) ?_;exact h2) h3 (h4.imp (fun q=>by exact wg q (wg (G6 ..) rfl)) id)
theorem place_tw (hL:FZ n p) {k:Nat} (hs:Sp rk p k):∀{f l r:Nat} {Q:Nat→Prop},l≤r→r≤k→r≤l+f→(∀i,i<l→Kp rk p i≤Kp rk p k)→(∀i,r≤i→i<k→Kp rk p k<Kp rk p i)→
  (∀l',l'≤k→(∀i,i<l'→Kp rk p i≤Kp rk p k)→(∀i,l'≤i→i<k→Kp rk p k<Kp rk p i)→Q l')→tw n rk (kas_place p k f l r) Q:=by
 intro f
 induction f with
 | zero=>
  intro l r Q h1 h2 h3 h4 h5 h
  obtain rfl:=L9 h1 h3
  exact h _ h2 h4 h5
 | succ f ih=>
  intro l r Q h1 h2 h3 h4 h5 h
  show tw n rk (if l≥r then .ret l else .ask (p.getD k 0) (p.getD ((l+r)/2) 0) _) Q
  by_cases hge:l≥r
  ·refine wg (if_pos hge) ?_
   obtain rfl:=L9 h1 hge
   exact h _ h2 h4 h5
  ·refine wg (if_neg hge) ?_
   have lo:l≤(l+r)/2:=mid_lo h1
   have hi:(l+r)/2<r:=mid_hi (b7.mp hge)
   generalize (l+r)/2=c at lo hi
   refine GW hL.two (fun hc=>?_) fun hc=>?_
   ·exact ih lo (A3 (D9 hi) h2) (E6 (A9 hi h3)) h4 (fun i h6 h7=>Int.lt_of_lt_of_le hc (hs c i h6 h7)) h
   ·exact ih (f7 hi) h2 (by refine wg (G6 ..) ?_;exact A3 h3 (G3 lo _)) (fun i h6=>N7 (hs i c (E6 h6) (A9 hi h2)) hc) h5 h
theorem Kp_bubble {xs:Array Nat} {src d:Nat} (hs:src<xs.size) (hd:d≤src) (k:Nat):Kp rk (bubble xs src d) k=if k=src - d then Kp rk xs src else if src - d<k∧k≤src then Kp rk xs (k - 1) else Kp rk xs k:=by
 have e:=getElem?_bubble hs d hd k
 by_cases h1:k=src - d
 ·rw[if_pos h1] at e ⊢;exact EB e
 ·rw[if_neg h1] at e ⊢
  by_cases h2:src - d<k∧k≤src
  ·rw[if_pos h2] at e ⊢;exact EB e
  ·rw[if_neg h2] at e ⊢;exact EB e
theorem Sp.put {k l:Nat} (hk:k<p.size) (hl:l≤k) (hs:Sp rk p k) (c:∀i,i<l→Kp rk p i≤Kp rk p k) (d:∀i,l≤i→i<k→Kp rk p k<Kp rk p i):Sp rk (bubble p k (k - l)) (k+1):=by
 have at':∀i,i<k+1→Kp rk (bubble p k (k - l)) i=if i<l then Kp rk p i else if i=l then Kp rk p k else Kp rk p (i - 1):=fun i hi=>by
  rewrite[Kp_bubble hk (AW _ _)];refine wg (Nat.sub_sub_self hl) ?_
  rcases Nat.lt_trichotomy i l with h | h | h
  ·exact wg (if_neg (E4 h)) (wg (if_neg (fun q=>Nat.lt_asymm h q.1)) (wg (if_pos h) rfl))
  ·exact wg (if_pos h) (wg (if_neg (h▸N9 _)) (wg (if_pos h) rfl))
  ·exact wg (if_neg (J6 h)) (wg (if_pos ⟨h,E6 hi⟩) (wg (if_neg (Nat.lt_asymm h)) (wg (if_neg (J6 h)) rfl)))
 intro i j h1 h2
 refine wg (at' i (C2 h1 h2)) (wg (at' j h2) ?_)
 rcases AQ j l with a1 | a1
 ·refine wg (if_pos (C2 h1 a1)) (wg (if_pos a1) ?_);exact hs i j h1 (A9 a1 hl)
 refine wg (if_neg (G4.mpr a1)) ?_
 have jk:∀{i},l<i→i≤j→j - 1<k:=fun q w=>Nat.sub_one_lt_of_le (A9 (Y8 q) w) (E6 h2)
 rcases AQ i l with a2 | a2
 ·refine wg (if_pos a2) ?_
  rcases k9 a1 with a3 | a3
  ·refine wg (if_pos a3.symm) ?_;exact c i a2
  ·refine wg (if_neg (J6 a3)) ?_;exact hs i (j - 1) (Nat.le_sub_one_of_lt (A9 a2 a1)) (jk a3 (B2 j))
 refine wg (if_neg (G4.mpr a2)) ?_
 rcases k9 a2 with a4 | a4
 ·refine wg (if_pos a4.symm) ?_
  rcases k9 a1 with a3 | a3
  ·refine wg (if_pos a3.symm) ?_;exact H3 _
  ·refine wg (if_neg (J6 a3)) ?_;exact Int.le_of_lt (d (j - 1) (Nat.le_sub_one_of_lt a3) (jk a3 (B2 j)))
 ·refine wg (if_neg (J6 a4)) (wg (if_neg (J6 (A9 a4 h1))) ?_);exact hs (i - 1) (j - 1) (Nat.sub_le_sub_right h1 1) (jk a4 h1)
theorem bin_tw:∀{f:Nat} {p:Array Nat} {k:Nat} {Q:Array Nat→Prop},FZ n p→k+f≤p.size→Sp rk p k→(∀q:Array Nat,q.Perm p→Sp rk q (k+f)→Q q)→tw n rk (kas_bin f p k) Q:=by
 intro f
 induction f with
 | zero=>exact fun hL hz hs h=>h _ (.refl _) hs
 | succ f ih=>
  intro p k Q hL hz hs h
  have hk:k<p.size:=A9 (N0 (L0 f)) hz
  refine Ew (place_tw hL hs (E2 _) (B2 _) (D5 _ _) (fun i hi=>absurd hi (V6 i)) (fun i h1 h2=>absurd h2 (G4.mpr h1)) fun l b c d=>?_)
  exact ih (hL.perm (bubble_perm _ _ _)) (by refine wg (bubble_size ..) (wg (G6 ..) ?_);exact hz) (hs.put hk b c d) fun q h1 h2=>h q (h1.trans (bubble_perm _ _ _)) (by refine wh (G6 ..) ?_;exact h2)
noncomputable def Inj (rk:Nat→Int) (p:Array Nat):Prop:=∀i j,i<p.size→j<p.size→Kp rk p i=Kp rk p j→i=j
theorem Inj.lt (hi:Inj rk p) {i j:Nat} (h1:i<p.size) (h2:j<p.size) (h:Kp rk p i≤Kp rk p j) (ne:i≠j):Kp rk p i<Kp rk p j:=(Int.lt_or_eq_of_le h).elim id fun q=>absurd (hi i j h1 h2 q) ne
theorem Dn.succ {m:Nat} (h:Dn rk p (m+1)) (c:Kp rk p (m+1)<Kp rk p m):Dn rk p (m+2):=fun i j h1 h2=>by
 rcases c5 (E6 h2) with h3 | rfl
 ·exact h i j h1 h3
 ·rcases c5 (E6 h1) with h4 | rfl
  ·exact Int.lt_trans c (h i m h4 (G7 _))
  ·exact c
theorem desc_tw (hL:FZ n p) (hi:Inj rk p):∀{f m:Nat} {Q:Array Nat×Nat×Nat→Prop},m+1+f≤p.size→Dn rk p (m+1)→(∀m',m≤m'→m'≤m+f→Dn rk p (m'+1)→Q (p,m'+1,0))→tw n rk (kas_desc f p (m+1) 0) Q:=by
 intro f
 induction f with
 | zero=>exact fun hz hs h=>h _ (B2 _) (B2 _) hs
 | succ f ih=>
  intro m Q hz hs h
  have z:m+1<p.size:=A9 (N0 (L0 f)) hz
  refine GW hL.two (fun c=>?_) fun c=>GW hL.two (fun d=>?_) fun d=>?_
  ·exact ih (by refine wg (G6 ..) ?_;exact hz) (hs.succ c) fun m' h1 h2 h3=>h m' (E8 h1) (by refine wh (G6 ..) ?_;exact h2) h3
  ·exact h m (B2 _) (C0 _ _) hs
  ·exact absurd (hi.lt (Nat.lt_of_succ_lt z) z c (E4 (G7 m))) (j9.mpr d)
theorem HK {xs:Array Nat} {j:Nat} (hj:j≤xs.size) (k:Nat):Kp rk (kas_rev xs 0 j) k=if k<j then Kp rk xs (j - 1 - k) else Kp rk xs k:=by
 have e:=getElem?_mirror_all (i:=0) hj k
 by_cases h:k<j
 ·rw[if_pos ⟨E2 _,h⟩,I0] at e
  refine wg (if_pos h) ?_;exact EB e
 ·rw[if_neg fun q=>h q.2] at e
  refine wg (if_neg h) ?_;exact EB e
theorem count_tw {z:Nat} (hz:p.size=z+2) (hL:FZ n p) (hi:Inj rk p) {Q:Nat×Array Nat→Prop} (h:∀m (q:Array Nat),q.Perm p→m≤z+1→Sp rk q (m+1)→Q (m+1,q)):tw n rk (kas_count (z+2) p) Q:=by
 refine Ew (asc_tw (m:=0) hL Sp.one fun m zz b d e=>?_)
 rw[I0] at b e
 by_cases h1:(m+1==z+2)=true
 ·refine wg (if_pos h1) ?_;exact h m p (.refl _) b d
 ·refine wg (if_neg h1) ?_
  have hne:m≠z+1:=fun q=>h1 (by refine wg q ?_;exact beq_self_eq_true _)
  have z1:m+1<p.size:=hz▸T7 (P3 b hne)
  by_cases h3:m+1>1
  ·refine wg (if_pos h3) ?_
   refine GW hL.two (fun zz=>h m p (.refl _) b d) fun c=>absurd (hi.lt (Y8 z1) (Nat.lt_of_succ_lt z1) (d 0 m (E2 _) (G7 _)) (E4 (O3 h3))) (j9.mpr c)
  ·refine wg (if_neg h3) ?_
   obtain rfl:m=0:=AA.mp (D6 (G4.mp h3))
   have D2:Dn rk p 2:=Dn.succ (m:=0) (fun i j h1 h2=>absurd (A9 h1 (E6 h2)) (V6 i)) (e.elim (fun q=>absurd q hne) id)
   refine Ew (desc_tw (m:=1) hL hi (B3 ((P7 2 z).trans hz.symm)) D2 fun m' b' c' e'=>?_)
   have hm:m'≤z+1:=A3 c' (B3 (P7 1 z))
   have hsz:m'+1≤p.size:=hz▸B1 hm
   have S:Sp rk (kas_rev p 0 (m'+1)) (m'+1):=fun i j h1 h2=>by
    rewrite[HK hsz];rewrite[HK hsz];refine wg (if_pos (C2 h1 h2)) (wg (if_pos h2) ?_)
    rcases c5 h1 with h4 | rfl
    ·exact Int.le_of_lt (e' _ _ (Nat.sub_lt_sub_left (A9 h4 (E6 h2)) h4) (I7 (AW ..)))
    ·exact H3 _
   refine Ew (asc_tw (hL.perm (mirror_perm _ _ _ _)) S fun m2 zz b2 d2 zz=>h m2 _ (mirror_perm _ _ _ _) (A3 b2 (B3 (by refine wg (Nat.succ_sub_succ ..) ?_;exact g6 hm))) d2)
theorem sort_tw {z:Nat} (hi:∀i j,i<z+2→j<z+2→rk i=rk j→i=j) {Q:Array Nat→Prop} (h:∀q:Array Nat,q.Perm (M1 (J9 (z+2)))→Sp rk q (z+2)→Q q):tw (z+2) rk (kas_sort (z+2)) Q:=by
 have hsz:(M1 (J9 (z+2))).size=z+2:=by exact wg H5 (wg P0 rfl)
 have hL:FZ (z+2) (M1 (J9 (z+2))):=⟨L0 _,fun x hx=>X0.mp (List.mem_toArray.mp hx)⟩
 have at':∀i,i<z+2→(M1 (J9 (z+2))).getD i 0=i:=fun i h=>by refine wg Q7 (wg s0 (wg (List.getElem?_range h) ?_));rfl
 have hI:Inj rk (M1 (J9 (z+2))):=fun i j h1 h3 h=>by
  rw[hsz] at h1 h3
  unfold Kp at h
  rw[at' i h1,at' j h3] at h
  exact hi i j h1 h3 h
 refine Ew (count_tw hsz hL hI fun m q c e f=>?_)
 have hq:q.size=z+2:=c.size_eq.trans hsz
 show tw _ rk (if m+1<z+2 then kas_bin (z+2 - max (m+1) 1) q (max (m+1) 1) else .ret q) Q
 refine wg (Nat.max_eq_left (L0 m)) ?_
 by_cases hlt:m+1<z+2
 ·refine wg (if_pos hlt) ?_
  exact bin_tw (hL.perm c) (B3 ((g6 (D9 hlt)).trans hq.symm)) f fun q' h1 h2=>h q' (h1.trans c) (by rw[Nat.add_sub_cancel' (D9 hlt)] at h2;exact h2)
 ·refine wg (if_neg hlt) ?_
  exact h q c (by rw[show m=z+1 from L9 e (D6 (G4.mp hlt))] at f;exact f)
end
section
variable {v:V} {b:Bool} {C:Prop}
theorem Hr {k} (e:oI v k=some b) (c:∀i,v= .int i→k i=some b→C):C:=by
 cases v with
 | int i=>exact c i rfl e
 | _=>cases e
theorem Hs {k} (e:oS v k=some b) (c:∀i,v= .str i→k i=some b→C):C:=by
 cases v with
 | str i=>exact c i rfl e
 | _=>cases e
theorem Ht {k} (e:oT v k=some b) (c:∀i,v= .tup i→k i=some b→C):C:=by
 cases v with
 | tup i=>exact c i rfl e
 | _=>cases e
theorem Hu {k} (e:oL v k=some b) (c:∀i,v= .lst i→k i=some b→C):C:=by
 cases v with
 | lst i=>exact c i rfl e
 | _=>cases e
end
theorem ltVs_irr:∀{l:List V},(∀v∈l,True)→Cj l l=some false:=by
 intro l
 induction l with
 | nil=>exact fun zz=>rfl
 | cons v l ih=>exact fun zz=>(if_pos rfl).trans (ih fun zz zz=>trivial)
theorem ltV_irr {v:V} {b:Bool} (e:ltV v v=some b):b=false:=by
 have t:∀{l},Cj l l=some b→b=false:=fun e=>by rw[ltVs_irr fun zz zz=>trivial] at e;exact (G9 e).symm
 cases v with
 | int i=>exact (G9 e).symm.trans (decide_eq_false (Int.lt_irrefl _))
 | str x=>exact (G9 e).symm.trans (decide_eq_false (List.lt_irrefl _))
 | tup l=>exact t e
 | lst l=>exact t e
 | _=>cases e
theorem ltVs_nil {l:List V} {b:Bool} (e:Cj l []=some b):b=false:=by
 cases l with
 | nil=>exact (G9 e).symm
 | cons _ _=>exact (G9 e).symm
set_option tactic.hygienic true in
theorem ltV_tot:∀{v v':V},ltV v v'=some false→v≠v'→ltV v' v=some true:=by
 intro v
 induction v using V.rec (motive_2:=fun l=>∀{l'},Cj l l'=some false→l≠l'→Cj l' l=some true) with
 | int i=>exact fun {v'} e h=>Hr e fun j hj e=>by subst hj;exact congrArg some (decide_eq_true (AC.mpr ⟨j9.mp (of_decide_eq_false (G9 e)),fun q=>h (by exact wg q rfl)⟩))
 | str x=>exact fun {v'} e h=>Hs e fun y hj e=>by subst hj;exact congrArg some (decide_eq_true ((List.le_iff_lt_or_eq.mp (List.not_lt.mp (of_decide_eq_false (G9 e)))).elim id fun q=>absurd (congrArg V.str (congrArg Str.mk (t9.mp q.symm))) h))
 | tup l ih=>exact fun {v'} e h=>Ht e fun l' hj e=>by subst hj;exact ih e fun q=>h (by exact wg q rfl)
 | lst l ih=>exact fun {v'} e h=>Hu e fun l' hj e=>by subst hj;exact ih e fun q=>h (by exact wg q rfl)
 | nil=>
  rename_i l' e h
  cases l' with
  | nil=>exact absurd rfl h
  | cons _ _=>cases e
 | cons v l ihv ihl=>
  rename_i l' e h
  cases l' with
  | nil=>rfl
  | cons v' l'=>
   by_cases hv:v=v'
   ·exact (if_pos hv.symm).trans (ihl ((if_pos hv).symm.trans e) fun q=>h (by exact wg hv (wg q rfl)))
   ·exact (if_neg (N6 hv)).trans (ihv ((if_neg hv).symm.trans e) hv)
 | _=>exact fun {v'} e=>by cases e
set_option tactic.hygienic true in
theorem HL:∀{v v' v'':V},ltV v v'=some true→ltV v' v''=some true→ltV v v''=some true:=by
 intro v
 induction v using V.rec (motive_2:=fun l=>∀{l' l''},Cj l l'=some true→Cj l' l''=some true→Cj l l''=some true) with
 | int i=>exact fun e e'=>Hr e fun j hj e=>by subst hj;exact Hr e' fun k hk e'=>by subst hk;exact congrArg some (decide_eq_true (Int.lt_trans (of_decide_eq_true (G9 e)) (of_decide_eq_true (G9 e'))))
 | str x=>exact fun e e'=>Hs e fun j hj e=>by subst hj;exact Hs e' fun k hk e'=>by subst hk;exact congrArg some (decide_eq_true (List.lt_trans (of_decide_eq_true (G9 e)) (of_decide_eq_true (G9 e'))))
 | tup l ih=>exact fun e e'=>Ht e fun j hj e=>by subst hj;exact Ht e' fun k hk e'=>by subst hk;exact ih e e'
 | lst l ih=>exact fun e e'=>Hu e fun j hj e=>by subst hj;exact Hu e' fun k hk e'=>by subst hk;exact ih e e'
 | nil=>
  rename_i l' l'' e e'
  cases l'' with
  | nil=>cases ltVs_nil e'
  | cons _ _=>rfl
 | cons v l ihv ihl=>
  rename_i l' l'' e e'
  cases l' with
  | nil=>cases e
  | cons v' l'=>
   cases l'' with
   | nil=>cases e'
   | cons v'' l''=>
    by_cases h1:v=v'
    ·subst h1
     have e:=(if_pos rfl).symm.trans e
     by_cases h2:v=v''
     ·exact (if_pos h2).trans (ihl e ((if_pos h2).symm.trans e'))
     ·exact (if_neg h2).trans ((if_neg h2).symm.trans e')
    ·have e:=(if_neg h1).symm.trans e
     by_cases h2:v'=v''
     ·subst h2;exact (if_neg h1).trans e
     ·have h3:=ihv e ((if_neg h2).symm.trans e')
      exact (if_neg fun q=>by rw[q] at h3;cases ltV_irr h3).trans h3
 | _=>exact fun e=>by cases e
theorem Ex {v v':V} (e:ltV v v'=some true):ltV v' v≠some true:=fun e'=>by cases ltV_irr (HL e e')
theorem Asc.nodup {l:List V} (h:Asc l):l.Nodup:=h.imp fun {a b} e q=>by subst q;cases ltV_irr e
theorem Asc.uniq:∀{l l':List V},Asc l→Asc l'→l.Perm l'→l=l':=by
 intro l
 induction l with
 | nil=>exact fun zz zz p=>(List.nil_perm.mp p).symm
 | cons a l ih=>
  intro l' h h' p
  cases l' with
  | nil=>exact absurd p.length_eq nofun
  | cons b l'=>
   have ha:=c6.mp h
   have hb:=c6.mp h'
   obtain rfl:a=b:=(C4.mp (p.mem_iff.mp (.head _))).elim id fun e=>(C4.mp (p.mem_iff.mpr (.head _))).elim Eq.symm fun q=>absurd (ha.1 b q) (Ex (hb.1 a e))
   exact wg (ih ha.2 hb.2 ((List.perm_cons a).mp p)) rfl
noncomputable def cdec (p:Prop):Bool:=@decide p (M9 p)
theorem Fa {p:Prop}:cdec p=true↔p:=@decide_eq_true_iff p (M9 p)
theorem asc_ex {l:List V} (ht:∀x∈l,∀y∈l,ltV x y≠none) (hn:l.Nodup):∃l':List V,l'.Perm l∧Asc l':=by
 let le:{v//v∈l}→{v//v∈l}→Bool:=fun a b=>cdec (ltV b.1 a.1≠some true)
 have hle:∀a b,le a b=true→a≠b→ltV a.1 b.1=some true:=fun a b h ne=>by
  have h:=Fa.mp h
  cases e:ltV b.1 a.1 with
  | none=>exact absurd e (ht _ b.2 _ a.2)
  | some c=>
   cases c with
   | true=>exact absurd e h
   | false=>exact ltV_tot e fun q=>ne (Subtype.ext q.symm)
 have hp:=List.mergeSort_perm l.attach le
 have hs:=List.pairwise_mergeSort (le:=le) (fun a b c h1 h2=>Fa.mpr fun h=>by
  by_cases q:a=b
  ·exact Fa.mp h2 (q▸h)
  ·by_cases q':b=c
   ·exact Fa.mp h1 (q'▸h)
   ·exact Ex (HL (hle a b h1 q) (hle b c h2 q')) h) (fun a b=>by
  by_cases h:le a b=true
  ·refine wg h ?_;rfl
  ·have h':ltV b.1 a.1=some true:=Classical.not_not.mp fun q=>h (Fa.mpr q)
   exact wg (show le b a=true from Fa.mpr (Ex h')) (wg (Bool.or_true ..) rfl)) l.attach
 refine ⟨(l.attach.mergeSort le).map (·.1),?_,?_⟩
 ·have:=hp.map (·.1)
  rw[List.attach_map_subtype_val] at this
  exact this
 ·refine List.Pairwise.map _ (fun a b h=>h) ?_
  have nd:(l.attach.mergeSort le).Nodup:=hp.nodup_iff.mpr (List.Pairwise.of_map (S:=(·≠·)) (·.1) (fun a b h q=>h (congrArg _ q)) (by refine wg (List.attach_map_subtype_val ..) ?_;exact hn))
  exact (hs.and nd).imp fun {a b} h=>hle a b h.1 h.2
section
variable {g:Gl} {A:Around} {E:Value→Shared→Prop} {s:Shared} {ρ:Rho} {b:Bool} {n:Nat} {v v':V} {u u':Value}
noncomputable def LtP (g:Gl) (s:Shared) (ρ:Rho) (n:Nat) (v:V):Prop:=∀{v':V} {u u':Value} {A:Around} {E Q:Value→Shared→Prop} {b:Bool},V.cmp n v'=true→n≤60→A.units+100+2*n<cLine→ltV v v'=some b→RV s.heap ρ v u→RV s.heap ρ v' u'→Q (.bool b) s→wpAny g.m A (richCompare .Lt u u') Q E s
theorem Fb {l:List V} (k:(v::l).all (V.cmp n)=true):V.cmp n v=true∧l.all (V.cmp n)=true:=E3.mp k
theorem Hv {l l':List V} (h:l=[]∨l'=[]) (e:Cj l l'=some b):b=decide (l.length<l'.length):=by
 cases l with
 | nil=>
  cases l' with
  | nil=>exact (G9 e).symm
  | cons _ _=>exact (G9 e).symm
 | cons v l=>
  obtain rfl:l'=[]:=h.elim nofun id
  exact (G9 e).symm
theorem tup_loop (hn:n≤60) (hu:A.units+100+2*n<cLine) {R:Option PySem.Fin×Unit→Shared→Prop} {f:Value×Value→Option PySem.Fin×Unit→Sem (ForInStep (Option PySem.Fin×Unit))}
  (hf:∀{p q} {R':ForInStep (Option PySem.Fin×Unit)→Shared→Prop},wpAny g.m A (eqBool p q) (fun e s'=>if e=true then R' (.yield (none,())) s' else wpAny g.m A (richCompare .Lt p q) (fun c s''=>R' (.done (some (.done (.ret c)),())) s'') E s') E s→wpAny g.m A (f (p,q) (none,())) R' E s):
  ∀{l l':List V} {us us':List Value},(∀v∈l,LtP g s ρ n v)→l.all (V.cmp n)=true→l'.all (V.cmp n)=true→RVs s.heap ρ l us→RVs s.heap ρ l' us'→Cj l l'=some b→
   (∀{r},(r=(none,())∧b=decide (us.length<us'.length))∨r=(some (.done (.ret (.bool b))),())→R r s)→wpAny g.m A (forIn (us.zip us') (none,()) f) R E s:=by
 intro l
 induction l with
 | nil=>
  intro l' us us' _ _ _ r r' e hR
  cases show us=[] from r
  exact A5 (hR (.inl ⟨rfl,by refine wg (Hv (.inl rfl) e) (wg r'.len ?_);rfl⟩))
 | cons v l ih=>
  intro l' us us' H k1 k2 r r' e hR
  cases l' with
  | nil=>
   cases show us'=[] from r'
   refine wg List.zip_nil_right ?_
   exact A5 (hR (.inl ⟨rfl,(G9 e).symm⟩))
  | cons v' l'=>
   refine CE r fun u us hh2 r1 r2=>?_;clear r;obtain rfl:=hh2
   refine CE r' fun u' us' hh2 r1' r2'=>?_;clear r';obtain rfl:=hh2
   have k1:=Fb k1
   have k2:=Fb k2
   refine wg Aa (wg (Y4 ..) ?_)
   refine A1 (hf (DK k1.1 k2.1 (up hn rfl) (up hn rfl) (un (drop hu) rfl) r1 r1' ?_))
   by_cases hv:v=v'
   ·refine wg (decide_eq_true hv) (wg (if_pos rfl) ?_)
    refine ih (fun x hx=>H x (.tail _ hx)) k1.2 k2.2 r2 r2' ((if_pos hv).symm.trans e) fun hr=>hR (hr.imp (fun h=>⟨h.1,h.2.trans (decide_eq_decide.mpr ⟨T7,O3⟩)⟩) id)
   ·refine wg (decide_eq_false hv) (wg (if_neg D3) ?_)
    exact H v (.head _) k2.1 hn hu ((if_neg hv).symm.trans e) r1 r1' (A5 (hR (.inr rfl)))
theorem lt_tup {l l':List V} {a a':Addr} {us us':Array Value} {Q:Value→Shared→Prop} (hn:n≤59) (hu:A.units+102+2*n<cLine) (H:∀v∈l,LtP g s ρ n v) (k:l.all (V.cmp n)=true) (k':l'.all (V.cmp n)=true) (X:IsT s.heap ρ l a us) (Y:IsT s.heap ρ l' a' us') (e:Cj l l'=some b) (h:Q (.bool b) s):
  wpAny g.m A (richCompare .Lt (.ref a) (.ref a')) Q E s:=by
 have hT:s.TypeIs (.ref a) "tuple":=⟨_,X.o,rfl⟩
 have hT':s.TypeIs (.ref a') "tuple":=⟨_,Y.o,rfl⟩
 refine wpAny_richCompare_same_room (op:= .Lt) hT hT' PySem.F.slot_tuple_lt (H9 PySem.F.slot_tuple_lt hT PySem.F.entry_tuple_lt ?_ (PySem.F.args_tuple_lt_2 _ _)) (drop (drop hu))
 show wpAny _ _ (isInstance (.ref a') (.type "tuple") >>=_) _ _ s
 refine A1 (W3 hT' isSubtype_tuple_tuple ?_)
 refine wg (if_neg (by decide)) ?_
 refine A1 (wpAny_tupleItemsOf X.o rfl (A1 (wpAny_tupleItemsOf Y.o rfl (A1 ?_))))
 refine tup_loop (A:=A.in1) (E7 hn) (un1k hu rfl) (fun {p q R'} hq=>?_) H k k' X.r Y.r e fun {r} hr=>?_
 ·refine A1 (J8 hq (fun e s' he=>?_) fun zz zz x=>x)
  cases e with
  | true=>exact A5 he
  | false=>exact A1 (Q6 (A1 (J8 he (fun c s'' hc=>A1 (A5 (A5 hc))) fun zz zz x=>x)))
 ·rcases hr with ⟨rfl,hb⟩ | rfl
  ·show wpAny _ _ (ret (r6 .Lt us.size us'.size)) _ _ s
   refine wg (show r6 .Lt us.size us'.size= .bool b by rw[hb];rfl) ?_
   exact A5 ⟨_,rfl,nofun,h⟩
  ·exact A5 ⟨_,rfl,nofun,h⟩
theorem lst_loop {a c:Addr} {us us':Array Value} {m m':Nat} {R:Result→Shared→Prop} (hn:n≤60) (hu:A.units+101+2*n<cLine) (ho:s.heap.get? a=some (BL us m)) (ho':s.heap.get? c=some (BL us' m')) (hR:R (.ok (.ret (.bool b))) s):
  ∀{l l':List V} {i:Nat},(∀v∈l,LtP g s ρ n v)→l.all (V.cmp n)=true→l'.all (V.cmp n)=true→RVs s.heap ρ l (us.toList.drop i)→RVs s.heap ρ l' (us'.toList.drop i)→us.size=l.length+i→us'.size=l'.length+i→Cj l l'=some b→
   codeAny g.m A (.builtin "list.__eq__.loop" ⟨[.ref a,.ref c,rawInt i,rawInt 0],[]⟩) R s:=by
 have ends:∀{l l':List V} {i:Nat},us.size=l.length+i→us'.size=l'.length+i→l=[]∨l'=[]→Cj l l'=some b→codeAny g.m A (.builtin "list.__eq__.loop" ⟨[.ref a,.ref c,rawInt i,rawInt 0],[]⟩) R s:=fun {l l' i} z z' hd e=>by
  have hb:b=decide (us.size<us'.size):=by refine wg (Hv hd e) (wg z (wg z' ?_));exact decide_eq_decide.mpr ⟨fun h=>y8 h _,Nat.lt_of_add_lt_add_right⟩
  refine O7 MeetsSeq3.entry_eq_loop ?_
  refine wg (M3 a8 _) ?_
  obtain ⟨hp,g,d,tk,os⟩:=s
  wp_walk using J5 ho,J5 ho'
  rw[hb] at hR
  have n0:∀{xs:Array Value},xs.size=i→xs[((i:Nat):Int).toNat]?=none:=fun h=>O0 (by refine wg h ?_;exact B2 _)
  rcases hd with rfl | rfl
  ·refine wg (n0 (z.trans (I0 _))) ?_
   wp_walk using J5 ho,J5 ho'
   exact hR
  ·refine wg (n0 (z'.trans (I0 _))) ?_
   cases us[((i:Nat):Int).toNat]? <;>
   ·wp_walk using J5 ho,J5 ho'
    exact hR
 intro l
 induction l with
 | nil=>exact fun {l' i} _ _ _ _ _ z z' e=>ends z z' (.inl rfl) e
 | cons v l ih=>
  intro l' i H k1 k2 r r' z z' e
  cases l' with
  | nil=>exact ends z z' (.inr rfl) e
  | cons v' l'=>
   have hlt:i<us.size:=by refine wg z ?_;exact Nat.lt_add_of_pos_left (L0 _)
   have hlt2:i<us'.size:=by refine wg z' ?_;exact Nat.lt_add_of_pos_left (L0 _)
   rw[J1 (by refine wg C3 ?_;exact hlt)] at r
   rw[J1 (by refine wg C3 ?_;exact hlt2)] at r'
   refine CE r fun zz zz q0 r1 r2=>?_;clear r
   refine CE r' fun zz zz q0' r1' r2'=>?_;clear r'
   cases q0;cases q0'
   rw[Array.getElem_toList] at r1 r1'
   have k1:=Fb k1
   have k2:=Fb k2
   have hi1:us[((i:Nat):Int).toNat]?=some us[i]:=J2 hlt
   have hi2:us'[((i:Nat):Int).toNat]?=some us'[i]:=J2 hlt2
   refine O7 MeetsSeq3.entry_eq_loop ?_
   refine wg (M3 a8 _) ?_
   have he:∀{Q:Bool→Shared→Prop},Q (decide (v=v')) s→wpAny g.m A.in1 (eqBool us[i] us'[i]) Q (fun e s'=>R (.error e) s') s:=fun hQ=>DK k1.1 k2.1 (up hn rfl) (up hn rfl) (un1 (drop hu) rfl) r1 r1' hQ
   have rest:v≠v'→wpAny g.m A.in1 (richCompare .Lt us[i] us'[i]) (fun c s'=>R (.ok (.ret c)) s') (fun e s'=>R (.error e) s') s:=fun hv=>H v (.head _) k2.1 hn (un1k hu rfl) ((if_neg hv).symm.trans e) r1 r1' hR
   have go:=fun hv:v=v'=>ih (i:=i+1) (fun x hx=>H x (.tail _ hx)) k1.2 k2.2 r2 r2' (by refine wg z ?_;exact G6 ..) (by refine wg z' ?_;exact G6 ..) ((if_pos hv).symm.trans e)
   obtain ⟨hp,gg,d,tk,os⟩:=s
   wp_walk using J5 ho,J5 ho'
   refine wg hi1 (wg hi2 ?_)
   refine A1 (he ?_)
   by_cases hv:v=v'
   ·refine wg (decide_eq_true hv) ?_
    wp_walk
    exact ⟨W0 a8 _,go hv⟩
   ·refine wg (decide_eq_false hv) ?_
    wp_walk using J5 ho,J5 ho'
    refine wg hi1 (wg hi2 ?_)
    exact A1 (J8 (rest hv) (fun c s' h=>A5 h) fun zz zz h=>h)
theorem lt_lst {l l':List V} {a c:Addr} {us us':Array Value} {m m':Nat} {Q:Value→Shared→Prop} (hn:n≤59) (hu:A.units+102+2*n<cLine) (H:∀v∈l,LtP g s ρ n v) (k:l.all (V.cmp n)=true) (k':l'.all (V.cmp n)=true) (X:IsL s.heap ρ l a us m) (Y:IsL s.heap ρ l' c us' m') (e:Cj l l'=some b) (h:Q (.bool b) s):
  wpAny g.m A (richCompare .Lt (.ref a) (.ref c)) Q E s:=by
 have hT:s.TypeIs (.ref a) "list":=⟨_,X.o,rfl⟩
 have hT':s.TypeIs (.ref c) "list":=⟨_,Y.o,rfl⟩
 refine wpAny_richCompare_same_room (op:= .Lt) hT hT' PySem.F.slot_list_lt (call_meetsIn (S:=fun A' R s'=>A'=A∧s'=s∧R (.ok (.ret (.bool b))) s) PySem.F.slot_list_lt hT PySem.F.entry_list_lt (PySem.F.args_list_lt_2 _ _) ?_ ⟨rfl,rfl,nofun,h⟩) (drop (drop hu))
 rintro A' R s' ⟨rfl,rfl,hR⟩
 show wpAny _ _ (isInstance (.ref c) (.type "list") >>=_) _ _ s'
 refine A1 (W3 hT' AutoSeq1.sub_list_list ?_)
 refine wg (if_neg (by decide)) ?_
 exact A5 ⟨W0 a8 _,lst_loop (i:=0) (E7 hn) (unk hu rfl) X.o Y.o hR H k k' X.r Y.r X.z.symm Y.z.symm e⟩
theorem lt_V:∀n v,V.cmp n v=true→LtP g s ρ n v:=V.okI
 (fun n i v' u u' A E Q b k hn hu e x x' h=>Hr e fun j hj e=>by
  subst hj;cases e
  refine ex1 x fun t hh1=>?_;clear x;obtain rfl:=hh1;refine ex1 x' fun t' hh1=>?_;clear x';obtain rfl:=hh1
  exact richCompare_gives (op:= .Lt) (typeIs_int s _ t) (typeIs_int s _ t') PySem.F.slot_int_lt PySem.F.entry_int_lt (PySem.F.args_int_lt_2 _ _) (gives_int_lt _ _ t t') (fun x=>nomatch x) h)
 (fun n i zz v' u u' A E Q b k hn hu e x x' h=>Hs e fun j hj e=>by
  subst hj;cases e
  refine ex1 x fun t hh1=>?_;clear x;obtain rfl:=hh1;refine ex1 x' fun t' hh1=>?_;clear x';obtain rfl:=hh1
  exact wpAny_richCompare_same (op:= .Lt) (j8 s _ t) (j8 s _ t') slot_str_lt (call_str_lt ⟨nofun,h⟩))
 (fun n l kl H v' u u' A E Q b k hn hu e x x' h=>Ht e fun l' hj e=>by
  subst hj
  exact tR (C:=fun u=>wpAny _ _ (richCompare _ u _) _ _ _) x fun a us X=>tR (C:=fun u=>wpAny _ _ (richCompare _ _ u) _ _ _) x' fun a' us' Y=>lt_tup (D6 hn) (unm hu) H kl k X Y e h)
 fun n l zz kl H v' u u' A E Q b k hn hu e x x' h=>Hu e fun l' hj e=>by
  subst hj
  refine Dw x fun a us m hh3 hh4 h3=>?_;clear x;obtain rfl:=hh3;refine an2 hh4 fun h1 h2=>?_;clear hh4
  refine Dw x' fun a' us' m' hh3 hh4 h3'=>?_;clear x';obtain rfl:=hh3;refine an2 hh4 fun h1' h2'=>?_;clear hh4
  exact lt_lst (D6 hn) (unm hu) H kl (E3.mp k).2 ⟨h1,h3,by exact wg h3.len (wg C3 rfl)⟩ ⟨h1',h3',by exact wg h3'.len (wg C3 rfl)⟩ e h
end
section
variable {g:Gl} {A:Around} {E:Value→Shared→Prop} {s:Shared} {ρ:Rho} {hp:Hp} {v:V} {u:Value} {l:List V} {K:KV} {Q:Value→Shared→Prop}
noncomputable def Col (g:Gl) (A:Around) (u:Value) (hp:Hp) (ρ:Rho) (s:Shared) (l:List V):Prop:=∀{Q:List Value→Shared→Prop} {E:Value→Shared→Prop},(∀{us s' l'},RS g ρ hp s'→Ext [] ρ s.heap ρ s'.heap→l'.Perm l→RVs s'.heap ρ l' us→Q us s')→wpAny g.m A (collect u) Q E s
noncomputable def ColE (g:Gl) (A:Around) (u:Value) (hp:Hp) (ρ:Rho) (s:Shared) (l:List V):Prop:=∀{Q:List Value→Shared→Prop} {E:Value→Shared→Prop},(∀{us s'},RS g ρ hp s'→Ext [] ρ s.heap ρ s'.heap→RVs s'.heap ρ l us→Q us s')→wpAny g.m A (collect u) Q E s
theorem ColE.col (h:ColE g A u hp ρ s l):Col g A u hp ρ s l:=fun {Q E} k=>h fun S X r=>k S X (.refl _) r
theorem src_dict {d:Addr} {es:Array DictEntry} (lo:(d==sysModules)=false):KdlSrc g.prog g.w "dict" d d es.size (fun i v=>∃en,es[i]?=some en∧v=en.key) (fun h=>h.get? d=some (HF es es.size)) where
 type:=fun zz hm=>⟨_,hm,rfl⟩
 there:=fun zz hm=>⟨G1 hm,G1 hm⟩
 keep:=fun zz zz hm hk=>hk d (.inl rfl) _ hm
 notList:=by decide
 notTuple:=by decide
 hint:=fun zz zz zz zz hm hq=>kdl_hint_dict ⟨_,hm,rfl⟩ hq
 iter:=fun A s hh hm=>⟨_,fun i h=>h.IsKeyIter s.heap.objs.size d i es.size es.size∧h.get? d=some (HF es es.size),fun zz zz hq=>Fq (g:=g) lo hm hq,
  ⟨fun b m=>C4.mpr (.inl (A8.mp m)),fun zz zz zz st hk=>⟨st.1.at fun o e=>hk _ (.head _) o e,hk d (.tail _ (.head _)) _ st.2⟩,
   fun i s' Q E hi st hQ=>EN (g:=g) hh st.1 st.2 (fun {en h'} hx it hs=>hQ _ h' s'.toks ⟨en,hx,rfl⟩ ⟨it,BG hs st.2 (E4 (G1 hm))⟩ fun b o m e=>BG hs e fun q=>m (A8.mpr q)) fun hx=>absurd (P4.mp hx) (b7.mpr hi),
   fun s' Q E st hQ=>EN (g:=g) hh st.1 st.2 (fun {en h'} hx=>by rw[O0 (B2 _)] at hx;cases hx) fun _ {h'} hx=>hQ h' s'.toks fun b o m e=>hx b o (fun q=>m (A8.mpr q)) e,
   fun i s Q E st hQ=>wpAny_pyIter_keyiter st.1 hQ⟩,⟨_,B0 _ rfl,rfl,rfl⟩,BC _ _ hm⟩
theorem BQ.keys {w:World} {h:Heap}:∀{d:List (V×V)} {es:List DictEntry},BQ w h ρ d es→∀{us:List Value},us.length=es.length→(∀(j:Nat) u,us[j]?=some u→∃en,es[j]?=some en∧u=en.key)→RVs h ρ (d.map (·.1)) us:=by
 intro d
 induction d with
 | nil=>
  intro es x us hz _
  cases show es=[] from x
  exact N8.mp hz
 | cons p d ih=>
  rintro _ ⟨e,es,rfl,a,x⟩ us hz H
  cases us with
  | nil=>cases hz
  | cons u us=>
   refine BD (H 0 u rfl) fun en h1 hh2=>?_;obtain rfl:=hh2
   cases h1
   exact ⟨_,us,rfl,a.2.1,ih x (Q3 hz) fun j u h=>H (j+1) u h⟩
theorem col_list {a:Addr} {us:Array Value} {n:Nat} (S:RS g ρ hp s) (L:IsL s.heap ρ l a us n) (hz:l.length≤4096):Col g A (.ref a) hp ρ s l:=fun {Q E} k=>by
 refine wpAny_size (collect_list (vs:=us.toList) (Bm (n:=n) (by refine wg Array.toArray_toList ?_;exact L.o)) (fun sz=>?_) (by refine wg C3 (wh L.z ?_);exact fit hz))
 refine an2 (S.1.same (h':=(s.heap.push (seqObj "list" #[] 0)).update s.heap.objs.size (G8 (·++us.toList.toArray))) (fun b o e=>(Z7 _ _ _ _ (E4 (G1 e))).trans (BC _ _ e)) sz) fun S' X=>?_
 exact k ⟨S',S.2⟩ X (.refl _) (L.r.keep X.k0)
theorem col_dict {i:Nat} {a:Addr} {d:List (V×V)} (hh:A.handled=none) (S:RS g ρ hp s) (ha:ρ.l[i]?=some a) (hd:hp.f i=some (.dict true d)) (hz:d.length≤4096):ColE g A (.ref a) hp ρ s (d.map (·.1)):=fun {Q E} k=>by
 refine dR S.1 ha hd fun es n D=>?_
 obtain rfl:=D.b rfl
 refine wpAny_size (kdu_collect (src_dict (Es g S.1 ha)) hh D.o (D.z▸fit hz) fun h' tk acc hk hi sz=>?_)
 refine an2 (S.1.same hk sz) fun S' X=>?_
 exact k (s':={s with heap:=h',toks:=tk}) ⟨S',S.2⟩ X ((D.e.keep X.k0).keys (by refine wg C3 (wg C3 ?_);exact hi.1) fun j u hu=>by
  refine BD (hi.2 j u (by refine wh D7 ?_;exact hu)) fun en h1 h2=>?_
  exact ⟨en,by refine wg D7 ?_;exact h1,h2⟩)
theorem valsE {k:List V→Prop} (hh:A.handled=none) (S:RS g ρ hp s) (q:vals hp v k) (x:RV s.heap ρ v u):∃l,k l∧(l.length≤4096→Col g A u hp ρ s l):=by
 cases v with
 | lst l=>
  refine Dw x fun a us n hh3 hh4 h3=>?_;clear x;obtain rfl:=hh3;refine an2 hh4 fun h1 h2=>?_;clear hh4
  exact ⟨l,q,fun hz=>col_list S ⟨h1,h3,by exact wg h3.len (wg C3 rfl)⟩ hz⟩
 | loc i=>
  refine BD x fun a hh1 e=>?_;clear x;obtain rfl:=hh1
  cases e':hp.f i with
  | none=>unfold vals pS at q;dsimp only at q;rw[e'] at q;exact q.elim
  | some o=>
   cases o with
   | list l=>
    unfold vals pS at q;dsimp only at q;rw[e'] at q
    refine ⟨l,q,fun hz=>?_⟩
    exact lR (k:=fun zz=>True) (C:=Col g A (.ref a) hp ρ s l) S.1 e (by refine wg e' ?_;unfold pL;trivial) fun l' us n e2 L zz=>by rw[e'] at e2;cases e2;exact col_list S L hz
   | dict t d=>
    cases t with
    | false=>unfold vals pS at q;dsimp only at q;rw[e'] at q;exact q.elim
    | true=>
     unfold vals pS at q;dsimp only at q;rw[e'] at q
     refine ⟨_,q,fun hz=>ColE.col ?_⟩;exact col_dict hh S e e' (by rw[A4] at hz;exact hz)
   | _=>unfold vals pS at q;dsimp only at q;rw[e'] at q;exact q.elim
 | _=>exact q.elim
theorem HM (hcol:Col g A.in1 u hp ρ s l) (hz:l.length<64)
  (hs:∀{us s1 E l'},RS g ρ hp s1→Ext [] ρ s.heap ρ s1.heap→l'.Perm l→RVs s1.heap ρ l' us→wpAny g.m A.in1.in1 (m9.«list.sort» ⟨[.ref s1.heap.objs.size],[]⟩) (fun fin s'=>fin= .done (.ret .none)∧Q (.ref s1.heap.objs.size) s') E {s1 with heap:=s1.heap.push (seqObj "list" us.toArray 0)}):
  wpAny g.m A (call (.builtin "sorted") [u]) Q E s:=by
 refine Calls.call_function_entry kind_sorted plain_sorted entry_sorted (args_sorted1 _) ?_
 refine A1 (m:=checkCount "sorted" 1 1 _) (A5 ?_)
 refine A1 (hcol fun {us s1 l'} S1 X1 p1 r1=>?_)
 refine A1 (wpAny_newList ?_ (by refine wh r1.len (wg p1.length_eq ?_);exact fit (up (D9 hz) rfl)))
 refine A1 (D4 (H9 slot_list_sort ⟨_,B0 _ rfl,rfl⟩ entry_list_sort (J8 (hs S1 X1 p1 r1) (fun fin s' h=>⟨.none,h.1,?_⟩) fun zz zz h=>h) (args_list_sort _)))
 exact A5 ⟨_,rfl,h.2⟩
theorem Fin.sorted {out:List Value} {us:List Value} {l':List V} (k:Fin g ρ s.heap K Q) (S:RS g ρ hp s) (r:RVs s.heap ρ l' out) (q:K (.lst l') hp):Q (.ref s.heap.objs.size) {s with heap:=sortedHeap (s.heap.push (seqObj "list" us.toArray 0)) s.heap.objs.size us out.toArray}:=by
 have hs:=(B0 (h:=s.heap) (o:=seqObj "list" us.toArray 0) rfl)
 have kept:∀b o,s.heap.get? b=some o→(sortedHeap (s.heap.push (seqObj "list" us.toArray 0)) s.heap.objs.size us out.toArray).get? b=some o:=fun b o e=>by
  have hb:=G1 e
  refine wg (sortedHeap_old (E4 hb) (A9 hb Bd)) ?_;exact BC _ _ e
 refine ex1 (sortedHeap_at (out:=out.toArray) hs) fun c hfin=>?_
 refine an2 (S.1.same kept (D9 (G1 hfin))) fun S' X=>?_
 exact k (s:={s with heap:=_}) q ⟨S',S.2⟩ X ⟨_,out.toArray,c,rfl,⟨hfin,S.1.fresh⟩,r.keep X.k0⟩
theorem ints_are {m:List Int}:∀{us:List Value} {h:Heap},RVs h ρ (m.map V.int) us→IntsAre us m:=by
 induction m with
 | nil=>exact fun r=>by cases show _=[] from r;exact .nil
 | cons i m ih=>
  rintro _ h ⟨_,us,rfl,⟨t,rfl⟩,r⟩
  exact .cons i t (ih r)
theorem ints_perm {m:List Int} {l:List V} (p:l.Perm (m.map V.int)):∃m2:List Int,l=m2.map V.int∧m2.Perm m:=by
 obtain ⟨m',e⟩:∃m2:List Int,l=m2.map V.int:=by
  have:∀v∈l,∃i,v=V.int i:=fun v hv=>by refine BD (B5.mp (p.mem_iff.mp hv)) fun i zz q=>?_;exact ⟨i,q.symm⟩
  clear p
  induction l with
  | nil=>exact ⟨[],rfl⟩
  | cons v l ih=>
   refine ex1 (ih fun v hv=>this v (.tail _ hv)) fun m' hh1=>?_;obtain rfl:=hh1
   refine ex1 (this v (.head _)) fun i hh1=>?_;obtain rfl:=hh1
   exact ⟨i::m',rfl⟩
 refine ⟨m',e,?_⟩
 have q:=(e▸p).map fun v=>match v with | V.int i=>i | _=>0
 rwa [G2,G2,show ((fun v=>match v with | V.int i=>i | _=>0)∘V.int)=(id:Int→Int) from rfl,g8,g8] at q
theorem Ft {m:List Int} (hc:Col g A.in1 u hp ρ s (m.map V.int)) (hz:m.length<60) (k:Fin g ρ s.heap K Q) (q:∀m2:List Int,m2.Perm m→m2.Pairwise (·≤·)→K (.lst (m2.map V.int)) hp):wpAny g.m A (call (.builtin "sorted") [u]) Q E s:=by
 have z:(m.map V.int).length<60:=by refine wg (A4 ..) ?_;exact hz
 refine HM hc (up z rfl) fun {us s1 E l'} S1 X1 p1 r1=>?_
 refine BD (ints_perm p1) fun m' hh1 p=>?_;obtain rfl:=hh1
 refine list_sort_tree (B0 _ rfl) (ints_are r1) (by refine wh r1.len (wg p1.length_eq ?_);exact up z rfl) fun out ns' h1 h2 h3=>⟨rfl,?_⟩
 exact Fin.sorted (us:=us) (k.up X1) S1 (RVs.ints (ρ:=ρ) h1) (q ns' (h2.trans p) h3)
theorem b_sortedI (hh:A.handled=none):NF g A (.builtin "sorted") DI:=fun {s ρ hp vs us K} S r q Q E k=>
 e1 (C:=fun us=>wpAny _ _ (call _ us) _ _ _) q r fun v u r1 q=>by
  refine BD (valsE (A:=A.in1) hh S q r1) fun l hh1 hc=>?_;refine ex1 hh1 fun m hh=>?_;clear hh1;refine an3 hh fun hh0 hz q=>?_;clear hh;obtain rfl:=hh0
  exact Ft (hc (by refine wg (A4 ..) ?_;exact up (D9 hz) rfl)) hz k q
end
section
variable {g:Gl} {A:Around} {E:Value→Shared→Prop} {s:Shared} {ρ:Rho} {hp:Hp} {v:V} {u:Value} {l l':List V} {K:KV} {Q:Value→Shared→Prop}
noncomputable def Hw (l l':List V) (i:Nat):Int:=(l'.idxOf (l.getD i .none):Int)
theorem Cz {α:Type} {l:List α} {d:α} {i:Nat} (h:i<l.length):l.getD i d=l[i]:=by refine wg P5 (wg (B4 h) ?_);rfl
structure Rk (l l':List V):Prop where
 p:l'.Perm l
 h:Asc l'
 t:∀x∈l,∀y∈l,ltV x y≠none
theorem Rk.at (R:Rk l l') {i:Nat} (hi:i<l.length):∃k,∃hk:k<l'.length,Hw l l' i=k∧l'[k]=l[i]:=by
 have hk:=Z6.mpr (R.p.mem_iff.mpr (N2 hi))
 exact ⟨_,hk,by unfold Hw;exact wg (Cz hi) rfl,Ab hk⟩
theorem Rk.inj (R:Rk l l') {i j:Nat} (hi:i<l.length) (hj:j<l.length) (e:Hw l l' i=Hw l l' j):i=j:=by
 refine ex1 (R.at hi) fun a hh=>?_;refine BD hh fun ha e1 e2=>?_;clear hh
 refine ex1 (R.at hj) fun b hh=>?_;refine BD hh fun hb e3 e4=>?_;clear hh
 rw[e1,e3] at e
 obtain rfl:=L8 e
 exact (List.getElem_inj (R.p.nodup_iff.mp R.h.nodup)).mp (e2.symm.trans e4)
theorem Rk.lt (R:Rk l l') {i j:Nat} (hi:i<l.length) (hj:j<l.length):ltV l[i] l[j]=some (decide (Hw l l' i<Hw l l' j)):=by
 refine ex1 (R.at hi) fun a hh=>?_;refine BD hh fun ha e1 e2=>?_;clear hh
 refine ex1 (R.at hj) fun b hh=>?_;refine BD hh fun hb e3 e4=>?_;clear hh
 refine wg e1 (wg e3 (wh e2 (wh e4 ?_)))
 have hp:=i4.mp R.h
 have no:∀{x y:V},x∈l→y∈l→ltV x y≠some true→ltV x y=some false:=fun {x y} m1 m2 h=>by
  cases e:ltV x y with
  | none=>exact absurd e (R.t _ m1 _ m2)
  | some c=>
   cases c with
   | true=>exact absurd e h
   | false=>rfl
 have ma:=R.p.mem_iff.mp (N2 ha)
 have mb:=R.p.mem_iff.mp (N2 hb)
 rcases Nat.lt_trichotomy a b with q | q | q
 ·refine wg (decide_eq_true (K4.mpr q)) ?_;exact hp _ _ ha hb q
 ·subst q;refine wg (decide_eq_false (Int.lt_irrefl _)) ?_;exact no ma mb fun h=>by cases ltV_irr h
 ·refine wg (decide_eq_false fun h=>Nat.lt_asymm q (K4.mp h)) ?_;exact no ma mb (Ex (hp _ _ hb ha q))
theorem Rk.out (R:Rk l l') {q:Array Nat} (hq:q.Perm (M1 (J9 l.length))) (hs:Sp (Hw l l') q l.length):q.toList.map (fun i=>l.getD i .none)=l':=by
 have hql:q.toList.Perm (J9 l.length):=g9.mp hq
 have hlen:q.toList.length=l.length:=hql.length_eq.trans P0
 have low:∀{i:Nat} (h:i<q.toList.length),q.toList[i]<l.length:=fun h=>X0.mp (hql.mem_iff.mp (N2 h))
 refine Asc.uniq (i4.mpr fun i j hi hj hij=>?_) R.h (((hql.map _).trans (List.Perm.of_eq ?_)).trans R.p.symm)
 ·rw[A4] at hi hj
  refine wg (M4 ..) (wg (M4 ..) (wg (Cz (low hi)) (wg (Cz (low hj)) (wg (R.lt (low hi) (low hj)) ?_))))
  have gq:∀{k:Nat} (hk:k<q.toList.length),q.getD k 0=q.toList[k]:=fun hk=>by refine wg Q7 (wh D7 (wg (B4 hk) ?_));rfl
  have e1:=hs i j (D9 hij) (hlen▸hj)
  unfold Kp at e1
  rw[gq hi,gq hj] at e1
  refine congrArg some (decide_eq_true (AC.mpr ⟨e1,fun e=>?_⟩))
  exact E4 hij ((List.getElem_inj (hql.nodup_iff.mpr List.nodup_range)).mp (R.inj (low hi) (low hj) e))
 ·exact W4 (by exact wg (A4 ..) (wg P0 rfl)) fun i h1 h2=>by exact wg (M4 ..) (wg (Ac ..) (wg (Cz h2) rfl))
theorem rvs_getD {h:Heap} {us:List Value} (r:RVs h ρ l us):∀{q:List Nat},(∀i∈q,i<l.length)→RVs h ρ (q.map fun i=>l.getD i .none) (q.map fun i=>us.getD i .none):=by
 intro q
 induction q with
 | nil=>exact fun zz=>.nil
 | cons i q ih=>
  intro hq
  have hi:=hq i (.head _)
  refine BD (r.get (B4 hi)) fun u h1 h2=>?_
  exact .cons (show RV h ρ (l.getD i .none) (us.getD i .none) by refine wg (Cz hi) (wg P5 (wg h1 ?_));exact h2) (ih fun j hj=>hq j (.tail _ hj))
@[reducible] noncomputable def CS (h:Heap) (a:Addr) (vs:List Value):Heap:=((h.update a (G8 fun zz=>(#[]:Array Value))).push (seqObj "tuple" vs.toArray 0)).push (seqObj "list" #[] 0)
theorem list_sort_V {a:Addr} {vs:List Value} {n:Nat} {rk:Nat→Int} {κ:SortKind} {P:PySem.Fin→Shared→Prop} (ho:s.heap.get? a=some (seqObj "list" vs.toArray n)) (h64:vs.length<64) (hi:∀i j,i<vs.length→j<vs.length→rk i=rk j→i=j)
  (hk:2≤vs.length→∀{E} {Q:SortKind→Shared→Prop},Q κ {s with heap:=CS s.heap a vs}→wpAny g.m A (keyKind' vs.toArray) Q E {s with heap:=CS s.heap a vs})
  (hc:∀i j (C:Bool→Shared→Prop),i<vs.length→j<vs.length→C (decide (rk i<rk j)) {s with heap:=CS s.heap a vs}→wpAny g.m A (keyLt' κ (vs.getD i I5) (vs.getD j I5)) C (fun zz zz=>False) {s with heap:=CS s.heap a vs})
  (h:∀q:Array Nat,q.Perm (M1 (J9 vs.length))→Sp rk q vs.length→P (.done (.ret .none)) {s with heap:=sortedHeap s.heap a vs (q.toList.map fun i=>vs.getD i I5).toArray}):
  wpAny g.m A (m9.«list.sort» ⟨[.ref a],[]⟩) P E s:=by
 have ha:a<s.heap.objs.size:=G1 ho
 obtain ⟨e1,ho1⟩:∃e1,(s.heap.update a (G8 fun zz=>(#[]:Array Value))).get? a=some (seqObj "list" #[] e1):=⟨_,j6 ho fun zz=>#[]⟩
 have z:vs.length≤sizeLine:=fit (A3 (D9 h64) (by decide))
 refine wg (list_sort_plain ..) ?_
 refine A1 (listItems_at ho rfl (A1 (e9 ho rfl ?_ (by refine wg H5 ?_;exact z) (E2 _))))
 refine A1 (Ao ho1 rfl (A1 (o8 ?_ z)))
 refine A1 (wpAny_newList ?_ (E2 _))
 refine D4 ?_
 have ho6:(CS s.heap a vs).get? a=some (seqObj "list" #[] e1):=BC _ _ (BC _ _ ho1)
 show wpAny g.m A _ P E {s with heap:=CS s.heap a vs}
 dsimp only
 by_cases h2:vs.toArray.size<2
 ·refine wg (if_pos h2) (wg (if_pos h2) ?_)
  refine A1 (A5 ?_)
  refine wg (StateT.run_pure ..) ?_
  refine A1 (A5 ?_)
  dsimp only
  refine A1 (Ao ho6 rfl ?_)
  have hz:(arrOf (SortSt.mk' general' (vs.toArray.zip vs.toArray) #[] 7 none)).map (·.2)=vs.toArray:=by
   show (vs.toArray.zip vs.toArray).map (·.2)=_
   apply t9.mp
   simp only[Array.toList_map,Array.toList_zip]
   exact List.map_snd_zip (B2 _)
  refine wg hz ?_
  refine A1 (e9 ho6 rfl ?_ (hsz2:=by refine wg H5 ?_;exact E7 z))
  refine wg (if_neg (by rw[bne_self_eq_false];exact D3)) ?_
  rw[H5] at h2
  have:=h (M1 (J9 vs.length)) (.refl _) (fun i j h3 h4=>by
   cases a7.mp (A9 h4 (E6 h2))
   cases AA.mp h3
   exact H3 _)
  rw[show (M1 (J9 vs.length)).toList.map (fun i=>vs.getD i I5)=vs from W4 (by exact wg (A4 ..) (wg P0 rfl)) fun i h1 h2=>by exact wg (M4 ..) (wg (Ac ..) (wg (Cz h2) rfl))] at this
  exact A5 this
 ·refine wg (if_neg h2) (wg (if_neg h2) ?_)
  rw[H5] at h2
  refine A1 (hk (G4.mp h2) ?_)
  obtain ⟨m,hm⟩:∃m,vs.length=m+2:=⟨vs.length - 2,(Q5 (G4.mp h2)).symm⟩
  have run:=sort_tw (z:=m) (rk:=rk) (Q:=fun q=>∃q':Array Nat,q=q'∧q'.Perm (M1 (J9 vs.length))∧Sp rk q' vs.length) (hm▸hi) fun q h1 h2=>⟨q,rfl,hm▸h1,hm▸h2⟩
  rw[←hm] at run
  refine A1 (J8 (kat_run (ks:=vs) (vs:=vs) (Q:=fun st' s'=>s'={s with heap:=CS s.heap a vs}∧failedOf st'=none∧∃q:Array Nat,q.Perm (M1 (J9 vs.length))∧Sp rk q vs.length∧(arrOf st').map (·.2)=(q.toList.map fun i=>vs.getD i I5).toArray)
   (G:=fun p s'=>s'={s with heap:=CS s.heap a vs}∧∃q':Array Nat,p=q'∧q'.Perm (M1 (J9 vs.length))∧Sp rk q' vs.length) rfl (by first | exact G4.mp h2 | exact A9 Nat.zero_lt_two (G4.mp h2)) h64
   (fun p st' s' a1 a2 a3 ⟨a4,q,e,a5,a6⟩=>⟨a4,a3,q,a5,a6,by exact wg (kat_snds rfl a2) (wg e rfl)⟩)
   (tw_kas (n:=vs.length) (rk:=rk) (s:={s with heap:=CS s.heap a vs}) hc (tw_and rfl run))) ?_ fun zz zz e=>e)
  rintro ⟨⟨⟩,st'⟩ s' ⟨rfl,hf,q,q1,q2,har⟩
  refine wg har ?_
  refine A1 (Ao ho6 rfl ?_)
  refine A1 (e9 ho6 rfl ?_ (hsz2:=by refine wg H5 (wg (A4 ..) (wg C3 (wg q1.size_eq (wg H5 (wg P0 ?_)))));exact E7 z))
  refine wg hf (wg (if_neg (by rw[bne_self_eq_false];exact D3)) ?_)
  exact A5 (h q q1 q2)
end
section
variable {g:Gl} {A:Around} {E:Value→Shared→Prop} {s:Shared} {ρ:Rho} {hp:Hp} {v v':V} {u u':Value} {l l':List V} {K:KV} {b:Bool} {n:Nat}
noncomputable def Heads (x y:V):Prop:=(∃i j,x= .int i∧y= .int j)∨∃i j,x= .str i∧y= .str j
theorem katlex {fin:Bool} {Q:Bool→Shared→Prop} (hu:A.units+164<cLine) (hQ:Q b s):∀{l l':List V} {us us':List Value} {i:Nat},(i=0→∃x y r r',l=x::r∧l'=y::r'∧Heads x y)→l.all (V.cmp 7)=true→l'.all (V.cmp 7)=true→RVs s.heap ρ l us→RVs s.heap ρ l' us'→Cj l l'=some b→fin=decide (us.length<us'.length)→
  KatLex g.prog g.w A true fin Q (us.zip us') i s:=by
 intro l
 induction l with
 | nil=>
  intro l' us us' i _ _ _ r r' e hf
  cases show us=[] from r
  refine kat_nil ?_
  refine wg hf (wg (show decide (T0 []<us'.length)=b by rw[Hv (.inl rfl) e,r'.len];rfl) ?_);exact hQ
 | cons v l ih=>
  intro l' us us' i hi k1 k2 r r' e hf
  cases l' with
  | nil=>
   cases show us'=[] from r'
   refine wg List.zip_nil_right ?_
   refine kat_nil ?_
   refine wg hf (wg (show decide (us.length<T0 [])=b by rw[Hv (.inr rfl) e,←r.len];rfl) ?_);exact hQ
  | cons v' l'=>
   refine CE r fun u us hh2 r1 r2=>?_;clear r;obtain rfl:=hh2
   refine CE r' fun u' us' hh2 r1' r2'=>?_;clear r';obtain rfl:=hh2
   have k1:=Fb k1
   have k2:=Fb k2
   refine wg Aa ?_
   refine kat_cons (DK k1.1 k2.1 (by decide) (by decide) (un hu rfl) r1 r1' ?_)
   by_cases hv:v=v'
   ·refine wg (decide_eq_true hv) ?_
    exact kat_yes (ih nofun k1.2 k2.2 r2 r2' ((if_pos hv).symm.trans e) (hf.trans (decide_eq_decide.mpr ⟨O3,T7⟩)))
   ·refine wg (decide_eq_false hv) ?_
    refine kat_no ?_
    have e:=(if_neg hv).symm.trans e
    cases i with
    | zero=>
     refine ex3 (hi rfl) fun x y zz hh=>?_;refine Bo hh fun zz e1 e2 hs=>?_;clear hh
     cases e1;cases e2
     show wpAny _ _ (oneLt' true u u') _ _ _
     rcases hs with ⟨i,j,rfl,rfl⟩ | ⟨i,j,rfl,rfl⟩
     ·refine ex1 r1 fun t hh1=>?_;clear r1;obtain rfl:=hh1;refine ex1 r1' fun t' hh1=>?_;clear r1';obtain rfl:=hh1;cases e;exact oneLt_int hQ
     ·refine ex1 r1 fun t hh1=>?_;clear r1;obtain rfl:=hh1;refine ex1 r1' fun t' hh1=>?_;clear r1';obtain rfl:=hh1;cases e;exact oneLt_str hQ
    | succ i=>
     exact kat_one _ _ (lt_V (g:=g) 7 v k1.1 (A:=A) k2.1 (by decide) (un (n:=114) hu rfl) e r1 r1' hQ)
theorem keyLt_tup {x y:V} {Q:Bool→Shared→Prop} (hu:A.units+164<cLine) (k:V.cmp 8 (.tup (x::l))=true) (k':V.cmp 8 (.tup (y::l'))=true) (hh:Heads x y) (e:ltV (.tup (x::l)) (.tup (y::l'))=some b) (r:RV s.heap ρ (.tup (x::l)) u) (r':RV s.heap ρ (.tup (y::l')) u') (hQ:Q b s):
  wpAny g.m A (keyLt' (tuples' true) u u') Q E s:=by
 refine CE r fun a us hh2 hh3 h2=>?_;clear r;obtain rfl:=hh2;refine an2 hh3 fun h1 zz=>?_;clear hh3
 refine CE r' fun a' us' hh2 hh3 h2'=>?_;clear r';obtain rfl:=hh2;refine an2 hh3 fun h1' zz=>?_;clear hh3
 exact kat_lt h1 rfl h1' rfl (katlex hu hQ (fun zz=>⟨x,y,l,l',rfl,rfl,hh⟩) k k' h2 h2' e (by exact wg C3 (wg C3 rfl)))
theorem kat_of {T:Value} {h:Heap}:∀{l:List V} {us:List Value},(∀v∈l,∃x r,v= .tup (x::r)∧∀{u},RV h ρ x u→Looks g.m h (typeOf u) T)→RVs h ρ l us→∃fs,KatTups h us fs∧fs.length=us.length∧∀f∈fs,Looks g.m h (typeOf f) T:=by
 intro l
 induction l with
 | nil=>exact fun zz r=>⟨[],by cases show _=[] from r;exact .nil,by cases show _=[] from r;rfl,nofun⟩
 | cons v l ih=>
  intro us0 hv x
  refine CE x fun u us hh2 r1 r2=>?_;clear x;obtain rfl:=hh2
  refine Bo (ih (fun v m=>hv v (.tail _ m)) r2) fun fs t1 t2 t3=>?_
  refine CU (hv v (.head _)) fun x rr hh2 hx=>?_;obtain rfl:=hh2
  refine CE r1 fun a us' hh2 hh3 h2=>?_;clear r1;obtain rfl:=hh2;refine an2 hh3 fun h1 zz=>?_;clear hh3
  refine BD (h2.get (i:=0) (v:=x) rfl) fun f h3 h4=>?_
  exact ⟨f::fs,.cons h1 rfl rfl (by refine wh D7 ?_;exact h3) t1,congrArg (·+1) t2,fun y m=>(C4.mp m).elim (fun q=>q▸hx h4) (t3 y)⟩
theorem srt_cmp {us:List Value} (Z:Srt l) (hu:A.units+164<cLine) (r:RVs s.heap ρ l us):(0<l.length→∀{E} {Q:SortKind→Shared→Prop},Q (tuples' true) s→wpAny g.m A (keyKind' us.toArray) Q E s)∧
  ∀{i j:Nat} (hi:i<l.length) (hj:j<l.length) {b:Bool} {C:Bool→Shared→Prop},ltV l[i] l[j]=some b→C b s→wpAny g.m A (keyLt' (tuples' true) (us.getD i .none) (us.getD j .none)) C (fun zz zz=>False) s:=by
 have item:∀{i:Nat} (hi:i<l.length),RV s.heap ρ l[i] (us.getD i .none):=fun hi=>by
  refine BD (r.get (B4 hi)) fun u e1 e2=>?_
  refine wg P5 (wg e1 ?_);exact e2
 have heads:=Z.h
 refine ⟨fun h0 {E Q} hQ=>?_,fun {i j} hi hj {b C} e hC=>?_⟩
 ·rcases heads with h | h
  ·refine Bo (kat_of (g:=g) (T:= .type "int") (fun v m=>by obtain ⟨i,r,e⟩:=h v m;exact ⟨_,r,e,fun ⟨t,e⟩=>by subst e;exact Looks.of_pure rfl⟩) r) fun fs t1 t2 t3=>?_
   exact kat_kind t1 (by refine wg t2 (wh r.len ?_);exact h0) t3 (by decide) hQ
  ·refine Bo (kat_of (g:=g) (T:= .type "str") (fun v m=>by obtain ⟨i,r,e⟩:=h v m;exact ⟨_,r,e,fun ⟨t,e⟩=>by subst e;exact Looks.of_pure rfl⟩) r) fun fs t1 t2 t3=>?_
   exact kat_kind t1 (by refine wg t2 (wh r.len ?_);exact h0) t3 (by decide) hQ
 ·have m1:=N2 hi
  have m2:=N2 hj
  have k1:=Z.k _ m1
  have k2:=Z.k _ m2
  have r1:=item hi
  have r2:=item hj
  obtain ⟨x,a,y,c,q1,q2,hh⟩:∃x a y c,l[i]= .tup (x::a)∧l[j]= .tup (y::c)∧Heads x y:=by
   rcases heads with h | h
   ·refine ex2 (h _ m1) fun i' a e1=>?_;refine ex2 (h _ m2) fun j' c e2=>?_;exact ⟨_,a,_,c,e1,e2,.inl ⟨i',j',rfl,rfl⟩⟩
   ·refine ex2 (h _ m1) fun i' a e1=>?_;refine ex2 (h _ m2) fun j' c e2=>?_;exact ⟨_,a,_,c,e1,e2,.inr ⟨i',j',rfl,rfl⟩⟩
  rw[q1] at k1 r1 e
  rw[q2] at k2 r2 e
  exact keyLt_tup hu k1 k2 hh e r1 r2 hC
theorem Srt.perm {l':List V} (Z:Srt l) (p:l'.Perm l):Srt l':=⟨fun v m=>Z.k v (p.mem_iff.mp m),Z.h.imp (fun h v m=>h v (p.mem_iff.mp m)) fun h v m=>h v (p.mem_iff.mp m),fun x m y m'=>Z.t x (p.mem_iff.mp m) y (p.mem_iff.mp m'),p.length_eq▸Z.z,p.nodup_iff.mpr Z.n⟩
theorem Fu {m:Nat} {hp:Hp} {K:KV} {Q:Value→Shared→Prop} (hA:Rm A m) (hc:Col g A.in1 u hp ρ s l) (Z0:Srt l) (k:Fin g ρ s.heap K Q) (q':∀l2:List V,l2.Perm l→Asc l2→K (.lst l2) hp):wpAny g.m A (call (.builtin "sorted") [u]) Q E s:=by
  refine HM hc (by have:=Z0.z;exact up this rfl) fun {us s1 E l0} S1 X1 p1 r1=>?_
  have Z:=Z0.perm p1
  have z:=Z.z
  refine BD (asc_ex Z.t Z.n) fun l' p h=>?_
  have R:Rk l0 l':=⟨p,h,Z.t⟩
  have hl:=r1.len
  have hu:A.in1.in1.units+164<cLine:=un2 hA.un rfl
  have keepM:∀b o,s1.heap.get? b=some o→(CS (s1.heap.push (seqObj "list" us.toArray 0)) s1.heap.objs.size us).get? b=some o:=fun b o e=>
   BC _ _ (BC _ _ ((Z7 _ _ _ _ (E4 (G1 e))).trans (BC _ _ e)))
  have rM:RVs (CS (s1.heap.push (seqObj "list" us.toArray 0)) s1.heap.objs.size us) ρ l0 us:=r1.keep ⟨fun n e=>⟨n,keepM _ _ e⟩,id⟩
  refine an2 (srt_cmp (g:=g) (A:=A.in1.in1) (s:={s1 with heap:=CS (s1.heap.push (seqObj "list" us.toArray 0)) s1.heap.objs.size us}) Z hu rM) fun c1 c2=>?_
  refine list_sort_V (g:=g) (s:={s1 with heap:=s1.heap.push (seqObj "list" us.toArray 0)}) (rk:=Hw l0 l') (B0 _ rfl) (by (refine wh hl ?_;exact up z rfl)) (fun i j hi hj e=>R.inj (hl▸hi) (hl▸hj) e) (fun h2=>c1 (by (refine wg hl ?_;exact D9 h2))) (fun i j C hi hj hC=>c2 (hl▸hi) (hl▸hj) (R.lt _ _) hC) fun q h1 h2=>⟨rfl,?_⟩
  rw[←hl] at h1 h2
  have low:∀i∈q.toList,i<l0.length:=fun i m=>X0.mp ((g9.mp h1).mem_iff.mp m)
  have r2:=rvs_getD r1 low
  rw[R.out h1 h2] at r2
  exact Fin.sorted (us:=us) (k.up X1) S1 r2 (q' l' (p.trans p1) h)
theorem b_sorted {m:Nat} (hA:Rm A m):NF g A (.builtin "sorted") Ep:=fun {s ρ hp vs us K} S r q Q E k=>
 e1 (C:=fun us=>wpAny _ _ (call _ us) _ _ _) q r fun v u r1 q=>by
  refine BD (valsE (A:=A.in1) hA.1 S q r1) fun l hh1 hc=>?_;refine an2 hh1 fun Z q'=>?_;clear hh1
  have z:=Z.z
  exact Fu hA (hc (up (D9 z) rfl)) Z k q'
end
section
variable {g:Gl} {fd:Fd} {A:Around} {E:Value→Shared→Prop} {s:Shared} {ρ:Rho} {hp:Hp} {v:V} {u:Value} {l l' ks:List V} {K:KV} {n:Nat} {fn:Fn}
theorem ksk_end_V {a kS:Addr} {vs kus:List Value} {e e1:Nat} {rk:Nat→Int} {κ:SortKind} {P:PySem.Fin→Shared→Prop} (hk0:s.heap.get? kS=some (seqObj "list" kus.toArray e)) (ha0:s.heap.get? a=some (seqObj "list" #[] e1)) (hne:a≠kS) (hl:kus.length=vs.length) (h64:vs.length<64) (hi:∀i j,i<vs.length→j<vs.length→rk i=rk j→i=j)
  (hk:2≤vs.length→∀{E} {Q:SortKind→Shared→Prop},Q κ s→wpAny g.m A (keyKind' kus.toArray) Q E s)
  (hc:∀i j (C:Bool→Shared→Prop),i<vs.length→j<vs.length→C (decide (rk i<rk j)) s→wpAny g.m A (keyLt' κ (kus.getD i I5) (kus.getD j I5)) C (fun zz zz=>False) s)
  (h:∀q:Array Nat,q.Perm (M1 (J9 vs.length))→Sp rk q vs.length→P (.done (.ret .none)) {s with heap:=(s.heap.update kS (G8 fun zz=>(#[]:Array Value))).update a (G8 fun zz=>(q.toList.map fun i=>vs.getD i I5).toArray)}):
  wpAny g.m A (ksk_end a false vs.toArray e1 (.ref kS) kus.toArray) P E s:=by
 have na1:(s.heap.update kS (G8 fun zz=>(#[]:Array Value))).get? a=some (seqObj "list" #[] e1):=(Z7 _ _ _ _ hne).trans ha0
 have tail:∀{st:SortSt} {q:Array Nat},q.Perm (M1 (J9 vs.length))→Sp rk q vs.length→(arrOf st).map (·.2)=(q.toList.map fun i=>vs.getD i I5).toArray→failedOf st=none→wpAny g.m A (ksk_tail a false e1 (.ref kS) st) P E s:=fun {st q} h1 h2 h3 hf=>by
  have z:(q.toList.map fun i=>vs.getD i I5).length<64:=by refine wg (A4 ..) (wg C3 (wg h1.size_eq (wg H5 (wg P0 ?_))));exact h64
  unfold ksk_tail
  refine wg h3 ?_
  refine A1 (e9 hk0 rfl ?_ (by refine wg H5 (wg M0 (wg hl ?_));exact up (D9 h64) rfl) (E2 _))
  refine A1 (Ak (A1 (Ao na1 rfl ?_)))
  refine A1 (e9 na1 rfl ?_ (E2 _) (by refine wg (if_neg D3) (wg H5 (wg M0 ?_));exact up (D9 z) rfl))
  refine wg hf (wg (if_neg (by rw[bne_self_eq_false];exact D3)) (wg (if_neg D3) ?_))
  exact A5 (h q h1 h2)
 unfold ksk_end
 refine wg (if_neg D3) ?_;rewrite[if_neg D3]
 by_cases h2:vs.toArray.size<2
 ·refine wg (if_pos h2) (wg (if_pos h2) ?_)
  refine A1 (A5 ?_)
  dsimp only
  refine wg (StateT.run_pure ..) ?_
  refine A1 (A5 ?_)
  rw[H5] at h2
  refine tail (q:=M1 (J9 vs.length)) (.refl _) (fun i j h3 h4=>by
   cases a7.mp (A9 h4 (E6 h2))
   cases AA.mp h3
   exact H3 _) ?_ rfl
  refine wg (show (M1 (J9 vs.length)).toList.map (fun i=>vs.getD i I5)=vs from W4 (by rw[A4,P0]) fun i h1 h2=>by rw[M4,Ac,Cz h2]) ?_
  show (kus.toArray.zip vs.toArray).map (·.2)=_
  apply t9.mp
  simp only[Array.toList_map,Array.toList_zip]
  exact List.map_snd_zip (B3 hl.symm)
 ·refine wg (if_neg h2) (wg (if_neg h2) ?_)
  rw[H5] at h2
  refine A1 (hk (G4.mp h2) ?_)
  obtain ⟨m,hm⟩:∃m,vs.length=m+2:=⟨vs.length - 2,by exact (Q5 (G4.mp h2)).symm⟩
  have run:=sort_tw (z:=m) (rk:=rk) (Q:=fun q=>∃q':Array Nat,q=q'∧q'.Perm (M1 (J9 vs.length))∧Sp rk q' vs.length) (hm▸hi) fun q h1 h2=>⟨q,rfl,hm▸h1,hm▸h2⟩
  rw[←hm] at run
  refine A1 (J8 (kat_run (ks:=kus) (vs:=vs) (Q:=fun st' s'=>s'=s∧failedOf st'=none∧∃q:Array Nat,q.Perm (M1 (J9 vs.length))∧Sp rk q vs.length∧(arrOf st').map (·.2)=(q.toList.map fun i=>vs.getD i I5).toArray)
   (G:=fun p s'=>s'=s∧∃q':Array Nat,p=q'∧q'.Perm (M1 (J9 vs.length))∧Sp rk q' vs.length) hl (G4.mp h2) h64
   (fun p st' s' a1 a2 a3 ⟨a4,q,e,a5,a6⟩=>⟨a4,a3,q,a5,a6,by exact wg (kat_snds hl a2) (wg e rfl)⟩)
   (tw_kas (n:=vs.length) (rk:=rk) (s:=s) hc (tw_and rfl run))) ?_ fun zz zz e=>e)
  rintro ⟨⟨⟩,st'⟩ s' ⟨rfl,hf,q,q1,q2,har⟩
  exact tail q1 q2 har hf
theorem key_fold {f:Value} {kS:Addr} {body:Value→PUnit→Sem (ForInStep PUnit)} (hA:Rm A n) (hc:NC g f n fn)
  (hb:∀{x s} {C:Shared→Prop},wpAny g.m A (call f [x]) (fun k s'=>∃us e,s'.heap.get? kS=some (BL us e)∧us.size<64∧C {s' with heap:=s'.heap.update kS (G8 (·.push k))}) (fun zz zz=>False) s→wpAny g.m A (body x ⟨⟩) (fun r s'=>r= .yield ⟨⟩∧C s') E s):
  ∀{l:List V} {vs:List Value} {ks:List V} {s:Shared} {ρ:Rho} {hp:Hp} {N:List V→Hp→Prop},RS g ρ hp s→kS∈ρ.p→Acc s.heap ρ kS ks→RVs s.heap ρ l vs→ks.length+l.length<64→keysX fn l ks hp N→
  ∀{Q:PUnit→Shared→Prop},(∀{ks' hp' ρ' s'},N ks' hp'→RS g ρ' hp' s'→Ext [kS] ρ s.heap ρ' s'.heap→Acc s'.heap ρ' kS ks'→ks'.length=ks.length+l.length→Q ⟨⟩ s')→wpAny g.m A (forIn vs PUnit.unit body) Q E s:=by
 intro l
 induction l with
 | nil=>
  intro vs ks s ρ hp N S hκ L r hz q Q k
  cases show vs=[] from r
  refine wg o7 ?_
  exact A5 (k q S .refl L rfl)
 | cons x l ih=>
  rintro _ ks s ρ hp N S hκ L ⟨u,vs,rfl,r1,r2⟩ hz q Q k
  rw[K9] at hz
  refine wg (Y4 ..) ?_
  refine A1 (J8 (hb (C:=fun s'=>wpAny g.m A (forIn vs PUnit.unit body) Q E s') (hc.call hA S (args:=[x]) (us:=[u]) (.cons r1 .nil) q fun {kv hp1 ku ρ1 s1} q S1 X1 rk=>?_)) (fun r s' h=>by refine wg h.1 ?_;exact h.2) fun zz zz x=>x)
  have hκ1:kS∈ρ1.p:=X1.p▸hκ
  refine CU (L.ext S.1 hκ X1 nofun) fun us e o rr=>?_
  have hz1:ks.length=us.size:=by exact wg rr.len (wg C3 rfl)
  refine ⟨us,e,o,hz1▸drop hz,?_⟩
  refine an2 (S1.1.chgP (h':=s1.heap.update kS (G8 (·.push ku))) hκ1 (C9 ..)) fun S2 X2=>?_
  have K2:=X2.k fun a m=>A8.mp m▸hκ1
  exact ih (s:={s1 with heap:=_}) ⟨S2,S1.2⟩ hκ1 ⟨us.push ku,_,F4 (G8 (·.push ku)) o rfl,by refine wg U9 ?_;exact (rr.app (.cons rk .nil)).keep K2⟩ ((r2.keep X1.k0).keep K2) (by refine wg A7 ?_;show ks.length+1+l.length<64;refine wg (G6 ..) ?_;exact hz) q fun q S3 X3 L3 hl3=>k q S3 ((X1.up.trans X2).trans X3) L3 (by refine wg hl3 (wg A7 ?_);show ks.length+1+l.length=ks.length+(l.length+1);exact G6 _ _)
theorem b_keyed {q:Addr} (hA:Rn A n) (hc:NC g (.ref q) n fn) {vs:List V} {us:List Value} {Q:Value→Shared→Prop} (S:RS g ρ hp s) (r:RVs s.heap ρ vs us) (q0:Ca fn vs hp K) (k:Fin g ρ s.heap K Q):wpAny g.m A (call (.builtin "sorted") us [(C7 "key",.ref q)]) Q E s:=by
 unfold Ca at q0
 refine e1 (C:=fun us=>wpAny _ _ (call _ us _) _ _ _) q0 r fun v u r1 q1=>dE (C:=fun u=>wpAny _ _ (call _ [u] _) _ _ _) S.1 q1 r1 fun i b d a es m hd hf D q1=>?_
 obtain ⟨rfl,hz,q1⟩:=q1
 have hcol:ColE g A.in1 (.ref a) hp ρ s (d.map (·.1)):=col_dict (A:=A.in1) (show A.in1.handled=none from hA.1.1) S hd hf (up (D9 hz) rfl)
 have hlD:(d.map (·.1)).length<60:=by refine wg (A4 ..) ?_;exact hz
 generalize d.map (·.1)=l at hcol hlD q1
 have hA2:Rm A.in1.in1 n:=⟨hA.1.1,by have:=hA.1.2.1;show A.depth+3*n≤990;exact this,by have q:A.units+15*n+2+200≤cLine:=hA.2;rw[N5 A.units] at q;exact q⟩
 refine call_function_entry_kw kind_sorted plain_sorted entry_sorted (ksk_s1 _ _) ?_
 refine A1 (m:=checkCount "sorted" 1 1 _) (A5 ?_)
 refine A1 (hcol fun {us s1} S1 X1 r1=>?_)
 have hlen:=r1.len
 refine A1 (wpAny_newList ?_ (by refine wh hlen ?_;exact fit (up (D9 hlD) rfl)))
 have hoL:(s1.heap.push (seqObj "list" us.toArray 0)).get? s1.heap.objs.size=some (seqObj "list" us.toArray 0):=B0 _ rfl
 show wpAny _ _ _ _ _ {s1 with heap:=s1.heap.push (seqObj "list" us.toArray 0)}
 refine A1 (D4 (wpAny_call_entry_kw slot_list_sort ⟨_,hoL,rfl⟩ entry_list_sort ?body (ksk_l1 _ _)))
 case body=>
  show wpAny g.m A.in1.in1 (m9.«list.sort» ⟨[.ref s1.heap.objs.size],[(C7 "key",.ref q)]⟩) _ _ _
  refine wg (ksk_t1 ..) ?_
  obtain ⟨e1,hD1⟩:∃e1,((s1.heap.push (seqObj "list" us.toArray 0)).update s1.heap.objs.size (G8 fun zz=>(#[]:Array Value))).get? s1.heap.objs.size=some (seqObj "list" #[] e1):=⟨_,j6 hoL fun zz=>#[]⟩
  refine A1 (listItems_at hoL rfl (A1 (e9 hoL rfl ?_ (by refine wg H5 (wg M0 (wh hlen ?_));exact up (D9 hlD) rfl) (E2 _))))
  refine A1 (Ao hD1 rfl (A1 (o8 ?_ (by refine wh hlen ?_;exact fit (up (D9 hlD) rfl)))))
  refine A1 (wpAny_newList ?_ (E2 _))
  refine D4 ?_
  have hk:∀b o,s1.heap.get? b=some o→(((s1.heap.push (seqObj "list" us.toArray 0)).update s1.heap.objs.size (G8 fun zz=>(#[]:Array Value))).push (seqObj "tuple" us.toArray 0)).get? b=some o:=fun b o e=>
   BC _ _ ((Z7 _ _ _ _ (E4 (G1 e))).trans (BC _ _ e))
  have hD2:=BC (o:=seqObj "tuple" us.toArray 0) _ _ hD1
  generalize (((s1.heap.push (seqObj "list" us.toArray 0)).update s1.heap.objs.size (G8 fun zz=>(#[]:Array Value))).push (seqObj "tuple" us.toArray 0))=H at hk hD2 ⊢
  have hkS:(H.push (BL #[] 0)).get? H.objs.size=some (BL #[] 0):=B0 _ rfl
  have hD3:=BC (o:=BL #[] 0) _ _ hD2
  have sz:s1.heap.objs.size≤H.objs.size:=D9 (G1 hD2)
  have hne:s1.heap.objs.size≠H.objs.size:=E4 (G1 hD2)
  obtain ⟨S3,K3⟩:=S1.1.newPs (P:=[H.objs.size,s1.heap.objs.size]) (h':=H.push (BL #[] 0)) (fun b o e=>BC _ _ (hk b o e)) (A3 sz Bd) fun x m=>by
   rcases C4.mp m with rfl | m
   ·exact ⟨sz,Cy⟩
   ·refine wg (A8.mp m) ?_;exact ⟨B2 _,G1 hD3⟩
  have X3:=(S1.1.same (h':=H.push (BL #[] 0)) (fun b o e=>BC _ _ (hk b o e)) (A3 sz Bd)).2
  show wpAny g.m A.in1.in1 (ksk_rest s1.heap.objs.size (.ref q) false us.toArray _ (.ref H.objs.size)) _ _ {s1 with heap:=H.push (BL #[] 0)}
  refine A1 (Q6 ?_)
  refine wg (List.forIn_toArray ..) ?_
  refine A1 (key_fold hA2 hc (kS:=H.objs.size) (fun {x s' C} hx=>?_) (s:={s1 with heap:=H.push (BL #[] 0)}) (ρ:=⟨ρ.l,[H.objs.size,s1.heap.objs.size]++ρ.p⟩) ⟨S3,S1.2⟩ (.head _) ⟨#[],0,hkS,.nil⟩ (r1.keep K3) (by show 0+l.length<64;refine wg (I0 ..) ?_;exact upl hlD rfl) q1 fun {ks hp4 ρ4 s4} q4 S4 X4 L4 hl4=>?_)
  ·refine A1 (u7 (J8 hx (fun kv s'' ⟨us',e',g1,g2,g3⟩=>?_) fun zz zz hF=>hF.elim))
   refine A1 (e9 g1 rfl ?_ (by refine wg M0 ?_;exact up (D9 g2) rfl) (A3 (B3 (V4 ..)) (by refine wg M0 ?_;exact B1 (up (D9 g2) rfl))))
   exact A5 ⟨rfl,g3⟩
  ·obtain ⟨⟨rfl,Z,_⟩,q4⟩:=q4
   obtain ⟨l4,p4⟩:=ρ4
   cases show p4=_ from X4.p
   have inP:∀a∈[H.objs.size],a∈[H.objs.size,s1.heap.objs.size]++ρ.p:=fun a m=>A8.mp m▸.head _
   have hD4:=X4.keep _ _ hD3 (S3.pt _ (.tail _ (.head _))).1 fun m=>hne (A8.mp m)
   have r4:=(r1.keep K3).keep (X4.k inP)
   obtain ⟨kus,e,o,rk⟩:=L4
   have hkl:ks.length=l.length:=hl4.trans (I0 _)
   have hku:=rk.len
   refine A1 (listItems_at o rfl ?_)
   rw[←Array.toArray_toList (xs:=kus)] at o ⊢
   obtain ⟨l',p,h⟩:=asc_ex Z.t Z.n
   have R:Rk ks l':=⟨p,h,Z.t⟩
   obtain ⟨c1,c2⟩:=srt_cmp (g:=g) (A:=A.in1.in1) (s:=s4) Z (un2 hA.1.un rfl) rk
   have e5:us.length=ks.length:=by exact wh hlen (wg hkl rfl)
   refine ksk_end_V (g:=g) (rk:=Hw ks l') o hD4 hne (by exact wh hku (wg e5 rfl)) (hlen▸upl hlD rfl) (fun i j hi hj e=>R.inj (e5▸hi) (e5▸hj) e) (fun h2=>c1 (A9 Nat.zero_lt_two (A3 h2 (B3 e5)))) (fun i j C hi hj hC=>c2 (e5▸hi) (e5▸hj) (R.lt _ _) hC) fun q h1 h2=>⟨_,rfl,A5 ⟨_,rfl,?_⟩⟩
   rw[e5] at h1 h2
   have low:∀i∈q.toList,i<l.length:=fun i m=>hkl▸X0.mp ((g9.mp h1).mem_iff.mp m)
   obtain ⟨S5,X5⟩:=S4.1.chgP (a:=H.objs.size) (h':=s4.heap.update H.objs.size (G8 fun zz=>(#[]:Array Value))) (.head _) (C9 ..)
   have hD5:(s4.heap.update H.objs.size (G8 fun zz=>(#[]:Array Value))).get? s1.heap.objs.size=some (BL #[] e1):=(Z7 _ _ _ _ hne).trans hD4
   obtain ⟨S6,X6⟩:=S5.chgP (a:=s1.heap.objs.size) (h':=(s4.heap.update H.objs.size (G8 fun zz=>(#[]:Array Value))).update s1.heap.objs.size (G8 fun zz=>(q.toList.map fun i=>us.getD i I5).toArray)) (.tail _ (.head _)) (C9 ..)
   obtain ⟨S7,K7⟩:=S6.dropP
   have inD:∀a∈[s1.heap.objs.size],a∈[H.objs.size,s1.heap.objs.size]++ρ.p:=fun a m=>A8.mp m▸.tail _ (.head _)
   have rr:=(((rvs_getD r4 low).keep (X5.k inP)).keep (X6.k inD)).keep K7
   have old:∀a∈[H.objs.size],a∈([]:List Addr)∨s1.heap.objs.size≤a:=fun a m=>.inr (A8.mp m▸sz)
   have X37:Ext [] ρ s1.heap ⟨l4,ρ.p⟩ _:=((X3.transP (X4.re (p:=ρ.p)) old).transP (X5.re (p:=ρ.p)) old).transP (X6.re (p:=ρ.p)) fun a m=>.inr (B3 (A8.mp m).symm)
   have e7:q.toList.map (fun i=>l.getD i .none)=l'.map fun k=>l.getD (ks.idxOf k) .none:=by
    refine wh (R.out h1 h2) (wg G2 ?_)
    refine H4 fun i m=>?_
    have hi:i<ks.length:=hkl.symm▸low i m
    show l.getD i .none=l.getD (ks.idxOf (ks.getD i .none)) .none
    refine wg (Cz (l:=ks) hi) ?_;rewrite[List.Nodup.idxOf_getElem Z.n];rfl
   refine k (s:={s4 with heap:=_}) (q4 l' p h) ⟨S7,S4.2⟩ (X1.trans X37) ⟨_,(q.toList.map fun i=>us.getD i I5).toArray,_,rfl,⟨F4 (G8 fun zz=>(q.toList.map fun i=>us.getD i I5).toArray) hD5 rfl,(S6.pt _ (.tail _ (.head _))).1,fun m=>G4.mpr X1.size (S.1.pt _ m).2.2⟩,e7▸rr⟩
structure GOk (g:Gl) (fd:Fd) (x:Str) (f:Value):Prop where
 hx:fd.env.kindOf x=some .globalImplicit
 hn:nsIn g.K mainGlobals x=some (some f)
 hd:(x==("__debug__":Str))=false
theorem n_sortedK {q:Addr} {x y:Str} {p p1 kp pos:Pos} {e:Expr} {a:XE V} (hA:Rn A n) (hc:NC g (.ref q) n fn) (h:NV g fd A e a) (B:BOk g fd x (.builtin "sorted")) (G:GOk g fd y (.ref q)) (he:starEach [e] fd.env=(false,eval e fd.env)::starEach [] fd.env)
  (hcall:eval (.Call (.Name x p) [e] [⟨some (C7 "key"),.Name y p1,kp⟩] pos) fd.env=(do callWith pos (←eval (.Name x p) fd.env) [] (backTo pos (starEach [e] fd.env)) (backToKw pos (keywordEach [⟨some (C7 "key"),.Name y p1,kp⟩] fd.env)))):
  NV g fd A (.Call (.Name x p) [e] [⟨some (C7 "key"),.Name y p1,kp⟩] pos) (BK (Ca fn) [a]):=by
 intro s ρ lc hp K S F q Q E k
 refine wg hcall ?_
 refine A1 (B.name S F (callWith_kw ((n_cons h n_nil he) S F q fun {vs hp1 us ρ1 s1} q S1 X1 r1 _=>?_) (by refine wg he ?_;rfl) (by refine wg he ?_;rfl) rfl rfl))
 exact kws_cons (EA S1 (F.ext S.1 X1) G.hx G.hn G.hd (kws_nil (b_keyed hA hc S1 r1 q (k.up X1))))
end
@[reducible] noncomputable def DC (xs:Array Nat):Prop:=xs.toList.Pairwise (·<·)
structure Bel (xs:List Nat) (j k:Nat):Prop where
 z:k≤xs.length
 a:∀y∈xs.take k,y<j
 b:∀y∈xs.drop k,j≤y
theorem Hx {xs:List Nat} (h:xs.Pairwise (·<·)) {m:Nat} (hm:m<xs.length):(∀y∈xs.take (m+1),y≤xs[m])∧∀y∈xs.drop m,xs[m]≤y:=by
 have h1:xs=xs.take m++xs[m]::xs.drop (m+1):=by exact wh (J1 hm) (wg (T4 ..) rfl)
 have h2:=i0.mp (h1▸h)
 refine ⟨fun y hy=>?_,fun y hy=>?_⟩
 ·rw[Y9 hm] at hy
  exact (C5.mp hy).elim (fun m=>D9 (h2.2.2 y m _ (.head _))) fun m=>B3 (A8.mp m)
 ·rw[J1 hm] at hy
  exact (C4.mp hy).elim (fun q=>B3 q.symm) fun m=>D9 ((c6.mp h2.2.1).1 y m)
theorem below_go {xs:Array Nat} {j:Nat} (hr:DC xs):∀{fuel lo hi:Nat},hi≤xs.size→lo≤hi→hi≤lo+fuel→(∀y∈xs.toList.take lo,y<j)→(∀y∈xs.toList.drop hi,j≤y)→Bel xs.toList j (Ap xs j fuel lo hi):=by
 intro fuel
 induction fuel with
 | zero=>
  intro lo hi h1 h2 h3 h4 h5
  obtain rfl:=L9 h2 h3
  exact ⟨h1,h4,h5⟩
 | succ fuel ih=>
  intro lo hi h1 h2 h3 h4 h5
  show Bel xs.toList j (if lo<hi then if xs.getD ((lo+hi)/2) j<j then Ap xs j fuel ((lo+hi)/2+1) hi else Ap xs j fuel lo ((lo+hi)/2) else lo)
  by_cases h:lo<hi
  ·refine wg (if_pos h) ?_
   have m1:(lo+hi)/2<hi:=mid_hi h
   have m2:lo≤(lo+hi)/2:=mid_lo h2
   generalize (lo+hi)/2=m at m1 m2 ⊢
   have hm:m<xs.toList.length:=A9 m1 h1
   have hg:xs.getD m j=xs.toList[m]:=by refine wg Q7 (wh D7 (wg (B4 hm) ?_));rfl
   refine an2 (Hx hr hm) fun p1 p2=>?_
   refine wg hg ?_
   by_cases hc:xs.toList[m]<j
   ·refine wg (if_pos hc) ?_;exact ih h1 m1 (by refine wg (G6 ..) ?_;exact A3 h3 (G3 m2 _)) (fun y hy=>C2 (p1 y hy) hc) h5
   ·refine wg (if_neg hc) ?_;exact ih (D9 (A9 m1 h1)) m2 (E6 (A9 m1 h3)) h4 fun y hy=>A3 (G4.mp hc) (p2 y hy)
  ·refine wg (if_neg h) ?_
   obtain rfl:=L9 h2 (G4.mp h)
   exact ⟨h1,h4,h5⟩
theorem DN {xs:Array Nat} (hr:DC xs) (j:Nat):Bel xs.toList j (H2 xs j):=
 below_go hr (B2 _) (E2 _) (D5 _ _) (fun y m=>by cases m) fun y m=>by rw[n6 (show xs.toList.length≤xs.size from B2 _)] at m;cases m
theorem laid_rising {mask finger moves:Nat} {led plain:Bool} {hs:Array Int} {t:SetTable} {o:Array Nat} (e:SetTable.laid mask finger moves led plain hs=some (t,o)):DC t.place∧t.led=led∧t.plain=plain:=by
 refine BD (Option.bind_eq_some_iff.mp e) fun owner h1 h2=>?_
 cases h2
 refine ⟨?_,rfl,rfl⟩
 refine R4.mpr (List.Pairwise.filterMap (R:=(·<·)) _ (fun a a' h b hb b' hb'=>?_) List.pairwise_lt_range)
 refine BD (I9.mp hb) fun zz zz hh2=>?_;obtain rfl:=hh2
 refine BD (I9.mp hb') fun zz zz hh2=>?_;obtain rfl:=hh2
 exact h
theorem DA {α:Type} {xs:Array α} {p:Nat} {x:α}:(L6 xs p x).toList=xs.toList.take p++x::xs.toList.drop p:=by
 unfold L6
 simp[Array.toList_extract,List.extract_eq_take_drop,Q9]
theorem GX {t:SetTable} {j:Nat} (hr:DC t.place) (hn:j∉t.place.toList):DC (t.put j).1.place:=by
 have B:=DN hr j
 show (L6 t.place (H2 t.place j) j).toList.Pairwise (·<·)
 refine wg DA ?_
 have h:(t.place.toList.take (H2 t.place j)++t.place.toList.drop (H2 t.place j)).Pairwise (·<·):=by refine wg (T4 ..) ?_;exact hr
 have h:=i0.mp h
 exact i0.mpr ⟨h.1,c6.mpr ⟨fun y hy=>P3 (B.b y hy) fun q=>hn (q▸List.mem_of_mem_drop hy),h.2.1⟩,fun x hx y hy=>(C4.mp hy).elim (fun q=>q▸B.a x hx) (h.2.2 x hx y)⟩
structure TOk (t:SetTable) (n:Nat):Prop where
 size:t.place.size=n
 fill:t.fill≤t.mask
 rising:DC t.place
theorem EC {t:SetTable} {n:Nat}:t.fits n=true↔t.place.size=n∧t.fill≤t.mask:=by
 unfold SetTable.fits
 refine wg (T5 ..) ?_;rewrite[beq_iff_eq];rewrite[decide_eq_true_iff];rfl
theorem TOk.fits {t:SetTable} {n:Nat} (h:TOk t n):t.fits n=true:=EC.mpr ⟨h.size,h.fill⟩
theorem Dk {t:SetTable} {n:Nat}:TOk (t.standIn n) n∧(t.standIn n).led=t.led:=by
 refine ⟨⟨by simp[u4],by simp[u4,SetTable.fill];exact A3 (p7 n (by decide)) (C0 _ 4),?_⟩,rfl⟩
 show (u4 t n).place.toList.Pairwise (·<·)
 simp only[u4,Array.toList_range]
 exact List.pairwise_lt_range
set_option tactic.hygienic true in
theorem Hy {t:SetTable} {n:Nat} (h:DC t.place):TOk (t.orStandIn n) n∧(t.orStandIn n).led=t.led:=by
 unfold SetTable.orStandIn
 split
 ·rename_i hf;exact ⟨⟨(EC.mp hf).1,(EC.mp hf).2,h⟩,rfl⟩
 ·exact Dk
theorem range_get {α:Type} {es:Array α}:(J9 es.size).filterMap (es[·]?)=es.toList:=by
 refine wg (show (fun i=>es[i]?)=fun i=>es.toList[i]? from funext fun i=>D7.symm) (wh C3 ?_)
 generalize es.toList=l
 induction l with
 | nil=>rfl
 | cons x l ih=>
  refine wg K9 (wg List.range_succ_eq_map (wg AN (wg List.filterMap_map ?_)))
  exact congrArg (x::·) ih
set_option tactic.hygienic true in
theorem relayAll_ok {t:SetTable} {es:Array (Int×Value)} {wanted:Nat}:TOk (relayAll t es wanted).2.1 (relayAll t es wanted).1.size∧(relayAll t es wanted).2.1.led=t.led∧(relayAll t es wanted).1.toList.Perm es.toList:=by
 unfold relayAll
 split
 ·rename_i t' order e
  refine an3 (laid_rising (show SetTable.laid _ _ _ _ _ _=some (t',order) from e)) fun h1 h2 h3=>?_
  dsimp only
  split
  ·rename_i hc
   refine an2 (E3.mp hc) fun hc hf=>?_
   refine ⟨⟨(EC.mp hf).1,(EC.mp hf).2,h1⟩,h2,?_⟩
   unfold coversAll at hc
   refine wg Array.toList_filterMap ?_
   exact ((List.isPerm_iff.mp hc).filterMap _).trans (.of_eq range_get)
  ·exact ⟨Dk.1,rfl,.refl _⟩
 ·exact ⟨Dk.1,rfl,.refl _⟩
theorem Fe {t:SetTable} (hr:DC t.place) {j:Nat} (h:∀i,t.slot j≠.live i):j∉t.place.toList:=fun hm=>by
 have B:=DN hr j
 generalize hk:H2 t.place j=k at B
 have hd:j∈t.place.toList.drop k:=by
  rw[←T4 k t.place.toList] at hm
  exact (C5.mp hm).elim (fun m=>absurd (B.a j m) (N9 _)) id
 have hk':k<t.place.toList.length:=Nat.lt_of_not_le fun q=>by rw[n6 q] at hd;cases hd
 have he:t.place.toList[k]=j:=L9 ((Hx hr hk').2 j hd) (B.b _ (by refine wg (J1 hk') ?_;exact .head _))
 refine h k ?_
 show (if t.place[H2 t.place j]?==some j then _ else _)=_
 exact wg hk (wh D7 (wg (B4 hk') (wg he (wg (if_pos (beq_self_eq_true _)) rfl))))
theorem Ff {t:SetTable} {q:U5}:(t.advance q).dummy=q.dummy:=by unfold SetTable.advance;split <;> rfl
theorem probe_free {t:SetTable} (hr:DC t.place) {hashAt:Nat→Int} {h:Int} {j:Nat} {d:Option Nat}:∀{fuel:Nat} {p:U5},(∀x,p.dummy=some x→x∉t.place.toList)→R5 t hashAt h fuel p=some (.empty j d)→j∉t.place.toList∧∀x,d=some x→x∉t.place.toList:=by
 intro fuel
 induction fuel with
 | zero=>exact fun zz e=>nomatch e
 | succ fuel ih=>
  intro p hd e
  replace e:(match t.slot p.j with
   | .empty=>some (.empty p.j p.dummy)
   | .dummy=>R5 t hashAt h fuel (t.advance {p with dummy:=some p.j})
   | .live i=>if hashAt i==h then some (.candidate p.j i (t.advance p)) else R5 t hashAt h fuel (t.advance p))=some (.empty j d):=e
  cases hs:t.slot p.j with
  | empty=>
   rw[hs] at e;cases e
   exact ⟨Fe hr (fun i q=>by rw[hs] at q;cases q),hd⟩
  | dummy=>
   rw[hs] at e
   exact ih (fun x hx=>by rw[Ff] at hx;cases hx;exact Fe hr (fun i q=>by rw[hs] at q;cases q)) e
  | live i=>
   rw[hs] at e
   replace e:(if (hashAt i==h)=true then some (SetTable.Met.candidate p.j i (t.advance p)) else R5 t hashAt h fuel (t.advance p))=some (.empty j d):=e
   by_cases hc:(hashAt i==h)=true
   ·rw[if_pos hc] at e;cases e
   ·rw[if_neg hc] at e;exact ih (fun x hx=>by rw[Ff] at hx;exact hd x hx) e
set_option tactic.hygienic true in
theorem layNew_ok {t:SetTable} {es:Array (Int×Value)} (ht:TOk t es.size) {h:Int} {x:Value}:TOk (layNew t es h x).2.1 (layNew t es h x).1.size∧(layNew t es h x).2.1.led=t.led∧(layNew t es h x).1.toList.Perm ((h,x)::es.toList):=by
 unfold layNew
 split
 ·rename_i slot wasDummy e
  unfold SetTable.freeSlot at e
  split at e
  ·rename_i j d e1
   cases e
   refine an2 (probe_free ht.rising (fun x hx=>by cases hx) e1) fun f1 f2=>?_
   have hfree:d.getD j∉t.place.toList:=by
    cases d with
    | none=>exact f1
    | some y=>exact f2 y rfl
   refine an2 (Hy (n:=(L6 es (t.put (d.getD j)).2 (h,x)).size) (GX ht.rising hfree)) fun o1 o2=>?_
   refine ⟨o1,o2,?_⟩
   refine wg DA ?_
   refine List.perm_middle.trans ?_
   rw[T4]
  ·cases e
 ·refine an2 (Dk (t:=t) (n:=es.size+1)) fun o1 o2=>?_
  refine ⟨by dsimp only;refine wg (V4 ..) ?_;exact o1,o2,?_⟩
  refine wg U9 ?_
  exact List.perm_append_singleton _ _
variable {prog:Program} {w:World} {A:Around} {E:Value→Shared→Prop} {s:Shared}
@[reducible] noncomputable def Bk (es:Array (Int×Value)) (ep:Nat) (t:SetTable):Obj:={cls:= .type "set",data:= .set es ep t}
theorem add_scan {K:Type} [DecidableEq K] [BEq K] [LawfulBEq K] {knd:KeyKind prog w K} {a:Addr} {es:Array (Int×Value)} {ep:Nat} {t:SetTable} {k:K} {x:Value} {Q:Bool→Shared→Prop} (hkey:knd.is k x=true) (hsc:x.scannable=true)
  (ho:s.heap.get? a=some (Bk es ep t)) (ht:TOk t es.size) (hel:ElemsOf knd es.toList) (hb:es.size+1<scanBound)
  (h1:es.toList.any (fun e=>knd.is k e.2)=true→Q false s)
  (h2:es.toList.any (fun e=>knd.is k e.2)=false→∀h' es' ep' t',K5 a s.heap h'→h'.get? a=some (Bk es' ep' t')→TOk t' es'.size→t'.led=t.led→es'.toList.Perm ((knd.hash k,x)::es.toList)→Q true {s with heap:=h'}):
  wpAny (model prog w) A (setAddHashed a x (knd.hash k)) Q E s:=by
 refine D4 (A1 (L7 ho rfl ht.fits ?_))
 dsimp only
 refine wg (byScan_of hsc (up (D9 hb) rfl) hel) ?_
 refine A1 ?_
 refine A1 (Q6 ?_)
 refine A1 (wpAny_setScan_of hkey ho rfl ht.fits hel ?_)
 cases hr:As (fun e=>knd.is k e.2) es.toList with
 | some j=>
  dsimp only
  refine BD (J4.mp hr) fun hj hpj zz=>?_
  exact A5 (A5 (h1 (List.any_eq_true.mpr ⟨_,N2 hj,hpj⟩)))
 | none=>
  have hno:es.toList.any (fun e=>knd.is k e.2)=false:=by
   rw[List.any_eq_false];intro e he;have:=Y3.mp hr e he;simp[this]
  have hgw:∀(b:Bool) {s₁:Shared} {Q':Unit→Shared→Prop},Q' () s₁→wpAny (model prog w) A (match b with | true=>rule "set.scan.the-table-gave-way" | false=>pure ()) Q' E s₁:=
   fun b s₁ Q' hq=>by cases b <;> first | exact A5 hq | exact Q6 hq
  refine an3 (layNew_ok ht (h:=knd.hash k) (x:=x)) fun o1 o2 o3=>?_
  generalize hL:layNew t es (knd.hash k) x=L at o1 o2 o3 ⊢
  obtain ⟨es1,t1,wasDummy,gave⟩:=L
  dsimp only at o1 o2 o3 ⊢
  have hz:es1.size=es.size+1:=by refine wh C3 (wg o3.length_eq ?_);simp
  have tailS:∀t2:SetTable,TOk t2 es1.size→t2.led=t.led→wpAny (model prog w) A (do
    storeSet a es1 t2
    if (!wasDummy&&t2.tooFull)=true then do
      (match (relayAll t2 es1 (U6 es1.size)).2.2 with | true=>rule "set.scan.the-table-gave-way" | false=>pure ())
      storeSet a (relayAll t2 es1 (U6 es1.size)).1 (relayAll t2 es1 (U6 es1.size)).2.1
      pure (some true)
     else pure (some true)) (fun r s'=>r=some true∧Q true s') E s:=fun t2 ht2 hl2=>by
   refine A1 (wpAny_storeSet_of ho rfl ?_ (fits_of_scanBound (by (refine wg hz ?_;exact hb))))
   have hg1:(s.heap.update a (Obj.putSet es1 t2)).get? a=some (Bk es1 (ep+1) t2):=by
    have:=putSet_of (o:=Bk es ep t) es1 t2 rfl
    exact wg (F4 _ ho (by rw[this];rfl)) (wg this rfl)
   have hsb1:=C9 s.heap a (Obj.putSet es1 t2)
   split
   ·refine an3 (relayAll_ok (t:=t2) (es:=es1) (wanted:=U6 es1.size)) fun q1 q2 q3=>?_
    refine A1 (hgw _ ?_)
    have hz2:(relayAll t2 es1 (U6 es1.size)).1.size=es1.size:=by exact wh C3 (wg q3.length_eq (wg C3 rfl))
    refine A1 (wpAny_storeSet_of hg1 rfl ?_ (fits_of_scanBound (by refine wg hz2 (wg hz ?_);exact hb)))
    refine A5 ⟨rfl,h2 hno _ _ (ep+1+1) _ (hsb1.trans (C9 _ a _)) ?_ q1 (q2.trans hl2) (q3.trans o3)⟩
    have:=putSet_of (o:=Bk es1 (ep+1) t2) (relayAll t2 es1 (U6 es1.size)).1 (relayAll t2 es1 (U6 es1.size)).2.1 rfl
    exact wg (F4 _ hg1 (by rw[this];rfl)) (wg this rfl)
   ·exact A5 ⟨rfl,h2 hno _ _ _ _ hsb1 hg1 ht2 hl2 o3⟩
  have fin:∀(r:Option Bool) (s':Shared),(r=some true∧Q true s')→wpAny (model prog w) A (match r with | some added=>pure added | none=>setAddHashedIn a x (knd.hash k) 99999) Q E s':=fun r s' hr=>by
   refine an2 hr fun hh0 hq=>?_;clear hr;obtain rfl:=hh0
   exact A5 hq
  refine A1 (hgw _ ?_)
  split
  ·refine A1 ?_
   refine wg (hashByValue_scannable 8 hsc) ?_
   refine A5 ?_
   refine J8 (tailS _ ?_ ?_) (fun r s' hr=>?_) fun zz zz e=>e
   ·split
    ·exact o1
    ·exact ⟨o1.size,o1.fill,o1.rising⟩
   ·split <;> exact o2
   ·refine an2 hr fun hh0 hq=>?_;clear hr;obtain rfl:=hh0;exact A5 hq
  ·refine A1 (A5 ?_)
   refine J8 (tailS _ o1 o2) (fun r s' hr=>?_) fun zz zz e=>e
   refine an2 hr fun hh0 hq=>?_;clear hr;obtain rfl:=hh0;exact A5 hq
inductive Path (t:SetTable):U5→Nat→Prop
 | stop {p}:t.slot p.j= .empty→Path t p 0
 | step {p i m}:t.slot p.j= .live i→Path t (t.advance p) m→Path t p (m+1)
structure HN (t:SetTable):Prop where
 mask:t.mask=7
 few:t.place.size≤1
 dum:t.dummies=#[]
theorem slot_cases {t:SetTable} (S:HN t) {j:Nat}:t.slot j= .empty∨(t.slot j= .live 0∧t.place[0]?=some j):=by
 show (if (t.place[H2 t.place j]?==some j)=true then SetTable.Slot.live (H2 t.place j) else if Ay t.dummies j=true then .dummy else .empty)=_∨((if (t.place[H2 t.place j]?==some j)=true then SetTable.Slot.live (H2 t.place j) else if Ay t.dummies j=true then .dummy else .empty)=_∧_)
 generalize H2 t.place j=k
 by_cases h:(t.place[k]?==some j)=true
 ·have h':=beq_iff_eq.mp h
  have hk:k=0:=a7.mp (A9 (M7.mp h').1 S.few)
  subst hk
  exact .inr ⟨if_pos h,h'⟩
 ·refine wg (if_neg h) (wg (show Ay t.dummies j=false by rw[S.dum];rfl) ?_);exact .inl rfl
structure At (p:U5):Prop where
 more:p.more=0
 j:p.j=p.i
 low:p.i<8
theorem At.advance {t:SetTable} (S:HN t) {p:U5} (h:At p):At (t.advance p)∧(t.advance p).j=(p.j*5+1+p.perturb/32)%8∧(t.advance p).perturb=p.perturb/32:=by
 unfold SetTable.advance
 refine wg (if_neg (by rw[h.more];exact N9 0)) ?_
 refine wg S.mask (wg h.j ?_)
 have r:∀i,AF 7 i=i:=fun i=>by unfold AF;exact wg (if_neg (b7.mpr (A9 (by decide:7<9) (D5 9 i)))) rfl
 refine ⟨⟨?_,rfl,Nat.mod_lt _ (by decide)⟩,rfl,rfl⟩
 dsimp only
 exact wg (r ..) (wg (AR ..) rfl)
theorem path_some {t:SetTable} (S:HN t):∀{k:Nat} {p:U5},At p→p.perturb<32^k→∃m,m≤k+1∧Path t p m:=by
 intro k
 induction k with
 | zero=>
  intro p h hp
  rcases slot_cases S (j:=p.j) with e | ⟨e,h1⟩
  ·exact ⟨0,E2 _,.stop e⟩
  ·refine an3 (h.advance S) fun zz q1 q2=>?_
   rw[a7.mp hp] at q1
   rcases slot_cases S (j:=(t.advance p).j) with e' | ⟨_,h2⟩
   ·exact ⟨1,B2 _,.step e (.stop e')⟩
   ·rw[h1] at h2
    have:=G9 h2
    have:=h.low
    have:=h.j
    lia
 | succ k ih=>
  intro p h hp
  rcases slot_cases S (j:=p.j) with e | ⟨e,h1⟩
  ·exact ⟨0,E2 _,.stop e⟩
  ·refine an3 (h.advance S) fun h' q1 q2=>?_
   refine BD (ih h' (by refine wg q2 ?_;exact Nat.div_lt_of_lt_mul (by refine wg (Nat.mul_comm ..) (wh (Nat.pow_succ ..) ?_);exact hp))) fun m hm P=>?_
   exact ⟨m+1,B1 hm,.step e P⟩
theorem start_at {t:SetTable} (S:HN t) {h:Int}:At (t.probeStart h)∧(t.probeStart h).perturb<32^13∧(t.probeStart h).dummy=none:=by
 unfold AO
 refine wg S.mask ?_
 have r:∀i,AF 7 i=i:=fun i=>by unfold AF;exact wg (if_neg (b7.mpr (A9 (by decide:7<9) (D5 9 i)))) rfl
 refine ⟨⟨?_,rfl,Nat.mod_lt _ (by decide)⟩,?_,rfl⟩
 ·dsimp only;exact wg (r ..) (wg (AR ..) rfl)
 ·show W1 h<_
  unfold W1
  have h1:=Int.emod_nonneg h (show (2^64:Int)≠0 by decide)
  have h2:=Int.emod_lt_of_pos h (show (0:Int)<2^64 by decide)
  have:(2^64:Int)<32^13:=by decide
  lia
variable {prog:Program} {w:World} {ρ:Rho}
theorem HO:∀n v,V.key n v=true→∀{d u} {A:Around} {s:Shared} {E:Value→Shared→Prop} {Q:Bool→Shared→Prop},n≤d→RV s.heap ρ v u→Q false s→wpAny (model prog w) A (ofAClassStatement d u) Q E s:=by
 refine V.okI ?_ ?_ ?_ ?_
 ·rintro n i d _ A s E Q _ ⟨t,rfl⟩ h;cases d <;> exact A5 h
 ·rintro n i _ d _ A s E Q _ ⟨t,rfl⟩ h;cases d <;> exact A5 h
 ·rintro n l kl ih d _ A s E Q hn ⟨a,us,rfl,o,r⟩ h
  cases d with
  | zero=>exact absurd hn (Z2 _)
  | succ d=>
  unfold ofAClassStatement
  refine A1 (i1 ⟨_,o.1,rfl⟩ (A1 (A5 ?_)))
  refine A1 (Q8 o.1 rfl (A1 ?_))
  show wpAny _ _ (forIn us _ _) _ _ s
  refine wh b6 ?_
  have all:∀u∈us.toList,∀{Q:Bool→Shared→Prop},Q false s→wpAny (model prog w) A (ofAClassStatement d u) Q E s:=r.each fun v hv u x Q h=>ih v hv (D6 hn) x h
  refine t6 _ (fun rest r s'=>r.1=none∧s'=s∧∀u∈rest,u∈us.toList) _ ?_ ?_ _ _ ⟨rfl,rfl,fun zz h=>h⟩
  ·rintro v rest r s' ⟨hr,rfl,H⟩
   exact A1 (all v (H v (.head _)) (A5 ⟨rfl,rfl,fun u hu=>H u (.tail _ hu)⟩))
  ·rintro ⟨_,r2⟩ s' ⟨rfl,rfl,_⟩
   exact A5 h
 ·rintro n l e;cases e
theorem byValue_V:∀n v,V.key n v=true→∀{d u} {A:Around} {s:Shared} {E:Value→Shared→Prop} {Q:Bool→Shared→Prop},RV s.heap ρ v u→(∀b,Q b s)→wpAny (model prog w) A (hashByValue d u) Q E s:=by
 refine V.okI ?_ ?_ ?_ ?_
 ·rintro n i d _ A s E Q ⟨t,rfl⟩ h;cases d <;> exact A5 (h _)
 ·rintro n i _ d _ A s E Q ⟨t,rfl⟩ h;cases d <;> exact A5 (h _)
 ·rintro n l kl ih d _ A s E Q ⟨a,us,rfl,o,r⟩ h
  cases d with
  | zero=>exact A5 (h _)
  | succ d=>
  refine A1 (V2 ⟨_,o.1,rfl⟩ F.slot_tuple_hash.lookup ?_)
  refine A1 (Q8 o.1 rfl (A1 ?_))
  show wpAny _ _ (forIn us _ _) _ _ s
  refine wh b6 ?_
  have all:∀u∈us.toList,∀{Q:Bool→Shared→Prop},(∀b,Q b s)→wpAny (model prog w) A (hashByValue d u) Q E s:=r.each fun v hv u x Q h=>ih v hv x h
  refine t6 _ (fun rest r s'=>s'=s∧∀u∈rest,u∈us.toList) _ ?_ ?_ _ _ ⟨rfl,fun zz h=>h⟩
  ·rintro v rest r s' ⟨rfl,H⟩
   refine A1 (all v (H v (.head _)) fun b=>?_)
   cases b with
   | true=>exact A5 ⟨rfl,fun u hu=>H u (.tail _ hu)⟩
   | false=>refine A5 ?_;show wpAny _ _ _ _ _ _;exact A5 (h _)
  ·rintro ⟨r1,r2⟩ s' ⟨rfl,_⟩
   cases r1 <;> exact A5 (h _)
 ·rintro n l e;cases e
theorem GG {α:Type} {g:Model} {A:Around} {s:Shared} {E:Value→Shared→Prop} {Q:α→Shared→Prop} {c:Prop} [Decidable c] {x y:Sem α} (h1:wpAny g A x Q E s) (h2:wpAny g A y Q E s):wpAny g A (if c then x else y) Q E s:=
 if h:c then (if_pos h).symm▸h1 else (if_neg h).symm▸h2
theorem HP {A:Around} {s:Shared} {E:Value→Shared→Prop} {v:V} {u:Value} {Q:Bool→Shared→Prop} (k:V.key 8 v=true) (x:RV s.heap ρ v u) {ys:List Value} (hy:∀y∈ys,∃v',V.key 8 v'=true∧RV s.heap ρ v' y) (hQ:Q false s):
  wpAny (model prog w) A (searchCouldBeSeen u ys) Q E s:=by
 unfold searchCouldBeSeen
 refine A1 (t6 _ (fun rest r s'=>r.1=none∧s'=s∧∀u∈rest,u∈ys) _ ?_ ?_ _ _ ⟨rfl,rfl,fun zz h=>h⟩)
 ·rintro y rest r s' ⟨hr,rfl,H⟩
  refine BD (hy y (H y (.head _))) fun v' k' x'=>?_
  have fin:=fun u hu=>H u (.tail y hu)
  refine GG (A5 ⟨rfl,rfl,fin⟩) ?_
  ·show wpAny _ _ (eqIsQuiet 8 u >>=_) _ _ _
   refine A1 (He 8 v k (B2 _) x ?_)
   refine A1 (He 8 v' k' (B2 _) x' ?_)
   refine A1 (HO 8 v k (B2 _) x ?_)
   refine A1 (HO 8 v' k' (B2 _) x' ?_)
   exact A5 ⟨rfl,rfl,fin⟩
 ·rintro ⟨_,r2⟩ s' ⟨rfl,rfl,_⟩
  exact A5 hQ
theorem probe_path {t:SetTable} {hashAt:Nat→Int} {h:Int} {m:Nat} {p:U5} (P:Path t p m):∀{fuel:Nat},m<fuel→p.dummy=none→
  (∃j,R5 t hashAt h fuel p=some (.empty j none)∧t.slot j= .empty∧(m=0→j=p.j))∨
  (∃j i next m',R5 t hashAt h fuel p=some (.candidate j i next)∧m'<m∧Path t next m'∧next.dummy=none∧t.slot j= .live i∧hashAt i=h):=by
 induction P with
 | @stop p e=>
  intro fuel hm hd
  cases fuel with
  | zero=>exact absurd hm (V6 _)
  | succ f=>
  refine .inl ⟨p.j,?_,e,fun zz=>rfl⟩
  show (match t.slot p.j with | .empty=>_ | .dummy=>_ | .live i=>_)=_
  exact wg e (wh hd rfl)
 | @step p i m e hn ih=>
  intro fuel hm hd
  cases fuel with
  | zero=>exact absurd hm (V6 _)
  | succ f=>
  have g:R5 t hashAt h (f+1) p=if hashAt i==h then some (.candidate p.j i (t.advance p)) else R5 t hashAt h f (t.advance p):=by
   show (match t.slot p.j with | .empty=>_ | .dummy=>_ | .live i=>_)=_
   exact wg e rfl
  refine wg g ?_
  have hd':(t.advance p).dummy=none:=Ff.trans hd
  by_cases hc:(hashAt i==h)=true
  ·exact .inr ⟨p.j,i,t.advance p,m,if_pos hc,G7 m,hn,hd',e,beq_iff_eq.mp hc⟩
  ·refine wg (if_neg hc) ?_
   rcases ih (fuel:=f) (O3 hm) hd' with ⟨j,r1,r2,_⟩ | ⟨j,i',next,m',r1,r2,r3⟩
   ·exact .inl ⟨j,r1,r2,fun h=>absurd h (Nat.succ_ne_zero m)⟩
   ·exact .inr ⟨j,i',next,m',r1,M5 r2,r3⟩
section
variable {prog:Program} {w:World} {A:Around} {E:Value→Shared→Prop} {s:Shared} {ρ:Rho} {S:Addr} {es:Array (Int×Value)} {ep:Nat} {t:SetTable} {v:V} {u:Value}
theorem search_new {h:Int} {Q:SetFound→Shared→Prop} (hu:A.units+64<cLine) (ho:s.heap.get? S=some (Bk es ep t)) (hS:HN t) (ht:TOk t es.size)
  (k:V.key 8 v=true) (x:RV s.heap ρ v u) (hl:∀(i:Nat) e,es[i]?=some e→∃l,V.key 8 (.tup l)=true∧RV s.heap ρ (.tup l) e.2∧(.tup l)≠v):
  ∀{m fuel:Nat} {stand:Option U5},Path t (stand.getD (t.probeStart h)) m→(stand.getD (t.probeStart h)).dummy=none→m<fuel→m<100→(∀j,t.slot j= .empty→(m=0→j=(stand.getD (t.probeStart h)).j)→Q (.free j false) s)→
   wpAny (model prog w) A (setSearchFrom S u h true fuel stand) Q E s:=by
 intro m
 induction m using Nat.strongRecOn with
 | ind m ih=>
  intro fuel stand hp hd hf h100 hQ
  cases fuel with
  | zero=>exact absurd hf (V6 _)
  | succ f=>
  have hg:t.gaveWay=false:=by unfold SetTable.gaveWay;refine wg hS.mask ?_;rfl
  refine A1 (L7 ho rfl ht.fits ?_)
  dsimp only
  refine wg hg (wg (if_neg D3) ?_)
  generalize hpr:Ad t _ h (stand.getD (t.probeStart h))=pr
  rcases probe_path (h:=h) hp (fuel:=10*SetTable.turns t.mask) (by refine wg hS.mask ?_;exact U0 h100 (by decide)) hd with ⟨j,e,hj,hj0⟩ | ⟨j,i,next,m',e,hm',hp',hd',hj,hh⟩ <;> cases hpr.symm.trans e
  ·exact A5 (hQ j hj hj0)
  ·have hi:i<es.size:=by
    rcases slot_cases hS (j:=j) with q | ⟨q,q'⟩
    ·exact nomatch hj.symm.trans q
    ·cases hj.symm.trans q
     exact ht.size▸(M7.mp q').1
   have hget:=J2 hi
   refine Bo (hl i _ hget) fun l kl rl hne=>?_
   refine CE rl fun a us e2 o r=>?_;clear rl
   have all:∀y∈(es.filter fun e=>e.1==h).toList.map (·.2),∃v',V.key 8 v'=true∧RV s.heap ρ v' y:=fun y hy=>by
    refine BD (B5.mp hy) fun e' he' hh2=>?_;obtain rfl:=hh2
    refine ex1 (Array.mem_iff_getElem?.mp (Array.mem_filter.mp (U2.mp he')).1) fun q hq=>?_
    refine Bo (hl q e' hq) fun l' q2 q3 zz=>?_
    exact ⟨_,q2,q3⟩
   refine (fun cont=>GG (by exact A1 (HP k x all cont)) cont:_→_) ?_
   refine wg hget ?_
   refine A1 (D4 (DK kl k (by decide) (by decide) hu ⟨a,us,e2,o,r⟩ x ?_))
   refine wg (decide_eq_false hne) ?_
   refine A1 (L7 ho rfl ht.fits ?_)
   refine wg (show t.sameMemory t.moves t.mask=some true by unfold SetTable.sameMemory;simp) ?_
   refine wg hj ?_
   show wpAny _ _ (match es[i]? with | some (_,y')=>_ | none=>_) _ _ _
   refine wg hget ?_
   show wpAny _ _ (isSame es[i].2 es[i].2 >>=_) _ _ _
   refine wg e2 ?_
   exact A1 (wpAny_isSame_ref_self (A1 (A5 (ih m' hm' (stand:=some next) hp' hd' (A9 hm' (E6 hf)) (U0 hm' h100) fun j h1 zz=>hQ j h1 fun h=>absurd hm' (h▸V6 m')))))
end
theorem below_one {x:Nat}:H2 #[x] x=0:=by
 have B:=DN (xs:=#[x]) (a9 _ _) x
 cases e:H2 #[x] x with
 | zero=>rfl
 | succ k=>rw[e] at B;exact absurd (B.a x (.head _)) (N9 _)
section
variable {prog:Program} {w:World} {A:Around} {E:Value→Shared→Prop} {s:Shared} {ρ:Rho} {S:Addr} {es:Array (Int×Value)} {ep:Nat} {t:SetTable} {v:V} {u:Value}
theorem search_old {y:Value} {Q:SetFound→Shared→Prop} (hu:A.units+64<cLine) (ho:s.heap.get? S=some (Bk #[(BP w v,y)] ep t)) (ht:TOk t 1) (hm:t.mask=7)
  (hp:t.place=#[W1 (BP w v)%8]) (k:V.key 8 v=true) (x:RV s.heap ρ v u) (hy:RV s.heap ρ v y) (hQ:Q (.there none) s) {fuel:Nat}:
   wpAny (model prog w) A (setSearchFrom S u (BP w v) true (fuel+1) none) Q E s:=by
 have hg:t.gaveWay=false:=by unfold SetTable.gaveWay;refine wg hm ?_;rfl
 refine A1 (L7 ho rfl (TOk.fits ht) ?_)
 dsimp only
 refine wg hg (wg (if_neg D3) ?_)
 have hj:(t.probeStart (BP w v)).j=W1 (BP w v)%8:=by unfold AO;exact wg hm rfl
 have hslot:t.slot (t.probeStart (BP w v)).j= .live 0:=by
  refine wg hj ?_
  unfold SetTable.slot
  refine wg hp (wg below_one ?_)
  exact if_pos (beq_self_eq_true _)
 generalize hpr:Ad t _ (BP w v) (Option.getD none (t.probeStart (BP w v)))=pr
 have P:∀hashAt:Nat→Int,hashAt 0=BP w v→Ad t hashAt (BP w v) (t.probeStart (BP w v))=some (.candidate (t.probeStart (BP w v)).j 0 (t.advance (t.probeStart (BP w v)))):=fun hashAt h0=>by
  unfold Ad
  refine wg (show 10*SetTable.turns t.mask=219+1 by rw[hm];rfl) ?_
  show (match t.slot (t.probeStart (BP w v)).j with | .empty=>_ | .dummy=>_ | .live i=>_)=_
  refine wg hslot ?_
  exact if_pos (by refine wg h0 ?_;exact beq_self_eq_true _)
 cases hpr.symm.trans (P _ rfl)
 have all:∀y'∈((#[(BP w v,y)]:Array (Int×Value)).filter fun e=>e.1==BP w v).toList.map (·.2),∃v',V.key 8 v'=true∧RV s.heap ρ v' y':=fun y' hy'=>by
  refine BD (B5.mp hy') fun e' he' hh2=>?_;obtain rfl:=hh2
  have:=(Array.mem_filter.mp (U2.mp he')).1
  rw[List.mem_toArray,A8] at this
  exact this▸⟨v,k,hy⟩
 refine (fun cont=>GG (by exact A1 (HP k x all cont)) cont:_→_) ?_
 show wpAny _ _ (holding [y] (eqBool y u) >>=_) Q E s
 refine A1 (D4 (DK k k (by decide) (by decide) hu hy x ?_))
 refine wg (decide_eq_true rfl) ?_
 exact A1 (L7 ho rfl (TOk.fits ht) (A5 hQ))
end
structure Sml (w:World) (h:Heap) (ρ:Rho) (es:Array (Int×Value)) (t:SetTable):Prop where
 mask:t.mask=7
 dum:t.dummies=#[]
 ok:TOk t es.size
 few:es.size≤1
 lone:∀e,es[0]?=some e→t.place=#[W1 e.1%8]
 ent:∀(i:Nat) e,es[i]?=some e→∃l,e.1=BP w (.tup l)∧V.key 8 (.tup l)=true∧RV h ρ (.tup l) e.2
structure Add (w:World) (S:Addr) (es:Array (Int×Value)) (t:SetTable) (v:V) (u:Value) (h h':Heap) (es':Array (Int×Value)) (ep':Nat) (t':SetTable):Prop where
 sb:K5 S h h'
 o:h'.get? S=some (Bk es' ep' t')
 ok:TOk t' es'.size
 led:t'.led=t.led
 perm:es'.toList.Perm ((BP w v,u)::es.toList)
structure Ad1 (w:World) (es es':Array (Int×Value)) (t':SetTable) (v:V):Prop where
 mask:t'.mask=7
 dum:t'.dummies=#[]
 lone:es.size=0→t'.place=#[W1 (BP w v)%8]
section
variable {prog:Program} {w:World} {A:Around} {E:Value→Shared→Prop} {s:Shared} {ρ:Rho} {S:Addr} {es:Array (Int×Value)} {ep:Nat} {t:SetTable} {v:V} {u:Value}
theorem put_new {Q:Bool→Shared→Prop} (ho:s.heap.get? S=some (Bk es ep t)) (H:Sml w s.heap ρ es t) (k:V.key 8 v=true) (x:RV s.heap ρ v u) {j:Nat} (hj:t.slot j= .empty) (hj0:es.size=0→j=W1 (BP w v)%8)
  (h2:∀h' es' ep' t',Add w S es t v u s.heap h' es' ep' t'→Ad1 w es es' t' v→Q true {s with heap:=h'}):
  wpAny (model prog w) A (do
    let (es,_,t) ←setState S
    let (t,p):=t.put j
    let byValue ←if t.plain then hashByValue 8 u else pure true
    let t:=if byValue then t else {t with plain:=false}
    storeSet S (L6 es p (BP w v,u)) t
    if !false&&t.tooFull then setRelay S (U6 (es.size+1))
    return true) Q E s:=by
 refine A1 (L7 ho rfl H.ok.fits ?_)
 have hfree:=Fe (j:=j) H.ok.rising (fun i q=>nomatch hj.symm.trans q)
 have hr:=GX H.ok.rising hfree
 have hpd:(t.put j).1.dummies=#[]:=by
  show (if Ay t.dummies j then _ else t.dummies)=#[]
  refine wg H.dum ?_;rfl
 have hz1:(L6 t.place (H2 t.place j) j).size=es.size+1:=by
  exact wh C3 (wg DA (wg A7 (wg K9 (wh (M2 ..) (wh A7 (wg (T4 ..) (wg C3 (wg H.ok.size rfl))))))))
 have hperm:(L6 es (H2 t.place j) (BP w v,u)).toList.Perm ((BP w v,u)::es.toList):=by
  refine wg DA ?_
  refine List.perm_middle.trans ?_
  rw[T4]
 have hz2:(L6 es (H2 t.place j) (BP w v,u)).size=es.size+1:=by
  refine wh C3 (wg hperm.length_eq ?_);rfl
 have go:∀t2:SetTable,t2.mask=7→t2.dummies=#[]→t2.place=L6 t.place (H2 t.place j) j→t2.led=t.led→wpAny (model prog w) A (do
   storeSet S (L6 es (t.put j).2 (BP w v,u)) t2
   if !false&&t2.tooFull then setRelay S (U6 (es.size+1))
   return true) Q E s:=fun t2 f1 f2 f3 f4=>by
  have hfill:t2.fill=es.size+1:=by unfold SetTable.fill;refine wg f2 (wg f3 (wg hz1 ?_));rfl
  have few:=H.few
  have hfull:t2.tooFull=false:=by unfold SetTable.tooFull;refine wg hfill (wg f1 ?_);exact decide_eq_false (b7.mpr (C2 (U7 5 (B1 few)) (by decide)))
  refine A1 (wpAny_storeSet_of ho rfl ?_ (by show (L6 es (H2 t.place j) (BP w v,u)).size≤_;refine wg hz2 (wg M0 ?_);exact up (B1 few) rfl))
  refine wg hfull ?_
  have hps:=putSet_of (o:=Bk es ep t) (L6 es (H2 t.place j) (BP w v,u)) t2 rfl
  have hg1:(s.heap.update S (Obj.putSet (L6 es (H2 t.place j) (BP w v,u)) t2)).get? S=some (Bk (L6 es (H2 t.place j) (BP w v,u)) (ep+1) t2):=by
   exact wg (F4 _ ho (by rw[hps];rfl)) (wg hps rfl)
  refine A1 (A5 (A5 (h2 _ _ (ep+1) t2 ⟨C9 s.heap S _,hg1,⟨by exact wg f3 (wg hz1 (wg hz2 rfl)),by refine wg hfill (wg f1 ?_);exact B1 (up few rfl),by refine wg f3 ?_;exact hr⟩,f4,hperm⟩ ⟨f1,f2,fun h0=>?_⟩)))
  refine wg f3 (wg (Array.eq_empty_of_size_eq_zero (H.ok.size.trans h0)) (wg (hj0 h0) ?_));rfl
 refine GG ?_ ?_
 ·exact A1 (byValue_V 8 v k x fun b=>by cases b <;> exact go _ H.mask hpd rfl rfl)
 ·exact A1 (A5 (go _ H.mask hpd rfl rfl))
end
section
variable {prog:Program} {w:World} {A:Around} {E:Value→Shared→Prop} {s:Shared} {ρ:Rho} {S:Addr} {es:Array (Int×Value)} {ep:Nat} {t:SetTable} {v:V} {u:Value}
theorem add_tup {Q:Bool→Shared→Prop} (hu:A.units+64<cLine) (ho:s.heap.get? S=some (Bk es ep t)) (H:Sml w s.heap ρ es t) (k:V.key 8 v=true) (x:RV s.heap ρ v u) (htup:u.scannable=false)
  (h1:(∃e∈es.toList,RV s.heap ρ v e.2)→Q false s)
  (h2:(∀e∈es.toList,¬RV s.heap ρ v e.2)→∀h' es' ep' t',Add w S es t v u s.heap h' es' ep' t'→Ad1 w es es' t' v→Q true {s with heap:=h'}):
  wpAny (model prog w) A (setAddHashed S u (BP w v)) Q E s:=by
 have hS:HN t:=⟨H.mask,H.ok.size▸H.few,H.dum⟩
 refine D4 (A1 (L7 ho rfl H.ok.fits ?_))
 dsimp only
 refine wg (show byScan u es=false by unfold byScan;rw[htup];rfl) (wg (if_neg D3) ?_)
 by_cases hex:∃e∈es.toList,RV s.heap ρ v e.2
 ·have h1':=h1 hex
  refine BD hex fun e he hr=>?_;clear hex
  have hes:es=#[(BP w v,e.2)]:=by
   refine ex1 (AM he) fun i hh=>?_;refine ex1 hh fun hi hh1=>?_;clear hh;obtain rfl:=hh1
   have hi':i<es.size:=hi
   have few:=H.few
   obtain rfl:i=0:=a7.mp (A9 hi' few)
   refine Bo (H.ent 0 es[0] (J2 hi')) fun l q1 q3 q4=>?_
   have hv:=RV.inj q3 k q4 hr
   refine Array.ext (by show es.size=1;exact L9 few hi) fun j hj1 hj2=>?_
   obtain rfl:j=0:=a7.mp hj2
   exact Prod.ext (hv▸q1) rfl
  have hp:=H.lone (BP w v,e.2) (hes▸rfl)
  have hok:TOk t 1:=by have:=H.ok;rw[hes] at this;exact this
  rw[hes] at ho
  exact A1 (search_old hu ho hok H.mask hp k x hr (A5 h1'))
 ·have hno:∀e∈es.toList,¬RV s.heap ρ v e.2:=fun e he hr=>hex ⟨e,he,hr⟩
  refine an3 (start_at hS (h:=BP w v)) fun a1 a2 a3=>?_
  have hst:(t.probeStart (BP w v)).j=W1 (BP w v)%8:=by unfold AO;exact wg H.mask rfl
  obtain ⟨m,hm1,hm2,hm3⟩:∃m,m≤15∧Path t ((none:Option U5).getD (t.probeStart (BP w v))) m∧(es.size=0→m=0):=by
   by_cases h0:es.size=0
   ·refine ⟨0,E2 _,.stop ?_,fun zz=>rfl⟩
    rcases slot_cases hS (j:=(t.probeStart (BP w v)).j) with e | ⟨_,e⟩
    ·exact e
    ·exact absurd (h0▸H.ok.size▸(M7.mp e).1) (V6 _)
   ·refine BD (path_some hS a1 a2) fun m b1 b2=>?_
    exact ⟨m,A3 b1 (by decide),b2,fun h=>absurd h h0⟩
  refine A1 (search_new hu ho hS H.ok k x (fun i e he=>?_) hm2 a3 (C2 hm1 (by decide)) (B1 (up hm1 rfl)) fun j hj hj0=>?_)
  ·refine Bo (H.ent i e he) fun l q1 q3 q4=>?_
   exact ⟨l,q3,q4,fun hv=>hno e (U2.mpr (s6 he)) (hv▸q4)⟩
  ·exact put_new ho H k x hj (fun h0=>(hj0 (hm3 h0)).trans hst) (h2 hno)
end
section
variable {w:World} {h h':Heap} {ρ:Rho} {v:V} {l:List V} {es es':List (Int×Value)}
noncomputable def E1 (w:World) (h:Heap) (ρ:Rho) (v:V) (e:Int×Value):Prop:=e.1=BP w v∧RV h ρ v e.2
noncomputable def SE (w:World) (h:Heap) (ρ:Rho):List V→List (Int×Value)→Prop
 | [],es=>es=[]
 | v::l,es=>∃e es',es=e::es'∧E1 w h ρ v e∧SE w h ρ l es'
theorem SE.rec' {P:List V→List (Int×Value)→Prop} (nil:P [] []) (cons:∀{v e l es},E1 w h ρ v e→SE w h ρ l es→P l es→P (v::l) (e::es)):∀{l es},SE w h ρ l es→P l es:=by
 intro l
 induction l with
 | nil=>exact fun {es} x=>Eq.rec (motive:=fun es zz=>P [] es) nil (Eq.symm (show es=[] from x))
 | cons v l ih=>exact fun {es} x=>U1 x fun zz w=>w.elim fun zz w=>w.1.symm▸cons w.2.1 w.2.2 (ih w.2.2)
theorem SE.len:SE w h ρ l es→l.length=es.length:=SE.rec' (P:=fun l es=>l.length=es.length) rfl fun zz zz e=>congrArg (·+1) e
theorem SE.of:SE w h ρ l es→∀e∈es,∃v∈l,E1 w h ρ v e:=SE.rec' (P:=fun l es=>∀e∈es,∃v∈l,E1 w h ρ v e) (fun zz m=>nomatch m) fun a zz ih zz m=>(C4.mp m).elim (fun q=>⟨_,.head _,q▸a⟩) fun m=>
 (ih _ m).imp fun zz w=>⟨.tail _ w.1,w.2⟩
theorem SE.to:SE w h ρ l es→∀v∈l,∃e∈es,E1 w h ρ v e:=SE.rec' (P:=fun l es=>∀v∈l,∃e∈es,E1 w h ρ v e) (fun zz m=>nomatch m) fun a zz ih zz m=>(C4.mp m).elim (fun q=>⟨_,.head _,q▸a⟩) fun m=>
 (ih _ m).imp fun zz w=>⟨.tail _ w.1,w.2⟩
theorem SE.vals:SE w h ρ l es→RVs h ρ l (es.map (·.2)):=SE.rec' (P:=fun l es=>RVs h ρ l (es.map Prod.snd)) .nil fun a zz ih=>.cons a.2 ih
theorem SE.keep (K:∀{v u},RV h ρ v u→RV h' ρ v u):SE w h ρ l es→SE w h' ρ l es:=SE.rec' (P:=fun l es=>SE w h' ρ l es) rfl fun {v e l es} a _ ih=>⟨e,es,rfl,⟨a.1,K a.2⟩,ih⟩
theorem perm_rel {α β:Type} {R:List α→List β→Prop} {r:α→β→Prop} (n0:R [] []) (nil:∀{l},R l []→l=[]) (mk:∀{v l e es},r v e→R l es→R (v::l) (e::es)) (cons:∀{l e es},R l (e::es)→∃v l',l=v::l'∧r v e∧R l' es) {es es':List β} (p:es'.Perm es):∀{l},R l es→∃l',l'.Perm l∧R l' es':=by
 induction p with
 | nil=>exact fun r=>⟨_,.refl _,r⟩
 | cons x p ih=>
  intro l r
  refine CE (cons r) fun v l hh2 a b=>?_;obtain rfl:=hh2
  refine BD (ih b) fun l' h1 h2=>?_
  exact ⟨_,h1.cons _,mk a h2⟩
 | swap x y l0=>
  intro l r
  refine CE (cons r) fun v l hh2 a b=>?_;obtain rfl:=hh2
  refine CE (cons b) fun v' l hh2 a' b'=>?_;obtain rfl:=hh2
  exact ⟨_,.swap _ _ _,mk a' (mk a b')⟩
 | trans p q ih1 ih2=>
  intro l r
  refine BD (ih2 r) fun l1 h1 h2=>?_
  refine BD (ih1 h2) fun l2 h3 h4=>?_
  exact ⟨l2,h3.trans h1,h4⟩
theorem SE.perm (p:es'.Perm es):∀{l},SE w h ρ l es→∃l',l'.Perm l∧SE w h ρ l' es':=perm_rel (R:=SE w h ρ) (r:=E1 w h ρ) rfl (fun x=>N8.mp x.len) (fun a b=>⟨_,_,rfl,a,b⟩) (fun {l e es} x=>by
 cases l with
 | nil=>exact nomatch show e::es=[] from x
 | cons v l=>refine CE x fun zz zz q a b=>?_;clear x;cases q;exact ⟨v,l,rfl,a,b⟩) p
theorem RVs.perm {us us':List Value} (p:us'.Perm us):∀{l},RVs h ρ l us→∃l',l'.Perm l∧RVs h ρ l' us':=perm_rel (R:=RVs h ρ) (r:=RV h ρ) rfl (fun x=>N8.mp x.len) (fun a b=>⟨_,_,rfl,a,b⟩) (fun {l e es} x=>by
 cases l with
 | nil=>exact nomatch show e::es=[] from x
 | cons v l=>refine CE x fun zz zz q a b=>?_;clear x;cases q;exact ⟨v,l,rfl,a,b⟩) p
noncomputable def okM:Bool→V→Prop
 | true,v=>∃i,v= .int i
 | false,v=>V.key 8 v=true∧∃l,v= .tup l
theorem okM_key {b:Bool} (h:okM b v):V.key 8 v=true:=by
 cases b with
 | true=>refine ex1 h fun i hh1=>?_;clear h;obtain rfl:=hh1;rfl
 | false=>exact h.1
structure HQ (w:World) (h:Heap) (ρ:Rho) (S:Addr) (l:List V) (mode:Bool) (es:Array (Int×Value)) (ep:Nat) (t:SetTable) (l':List V):Prop where
 o:h.get? S=some (Bk es ep t)
 ok:TOk t es.size
 led:t.led= !w.params.followText "set-order"
 nd:l'.Nodup
 mem:∀v,v∈l'↔v∈l
 z:l'.length≤l.length
 se:SE w h ρ l' es.toList
 kind:∀v∈l,okM mode v
 small:mode=false→t.mask=7∧t.dummies=#[]∧(es.size≤1→∀e,es[0]?=some e→t.place=#[W1 e.1%8])
end
section
variable {prog:Program} {w:World} {A:Around} {E:Value→Shared→Prop} {s:Shared} {ρ:Rho} {S:Addr} {l l':List V} {mode:Bool} {es:Array (Int×Value)} {ep:Nat} {t:SetTable} {v:V} {u:Value}
theorem HQ.add (x:HQ w s.heap ρ S l mode es ep t l') (hv:okM mode v) (hm:v∉l) {h' es' ep' t'} (a:Add w S es t v u s.heap h' es' ep' t') (r:RV s.heap ρ v u) (hk:∀{v u},RV s.heap ρ v u→RV h' ρ v u) (m:mode=false→Ad1 w es es' t' v):
  ∃l2,HQ w h' ρ S (l++[v]) mode es' ep' t' l2:=by
 refine BD (SE.perm (ρ:=ρ) (h:=s.heap) (w:=w) a.perm (l:=v::l') ⟨_,_,rfl,⟨rfl,r⟩,x.se⟩) fun l2 p1 p2=>?_
 refine ⟨l2,a.o,a.ok,a.led.trans x.led,p1.nodup_iff.mpr (O5.mpr ⟨fun q=>hm ((x.mem v).mp q),x.nd⟩),fun y=>?_,?_,p2.keep hk,fun y hy=>?_,fun q=>⟨(m q).mask,(m q).dum,fun hz e he=>?_⟩⟩
 ·rw[p1.mem_iff,C4,x.mem,C5,A8];exact Or.comm
 ·refine wg p1.length_eq (wg A7 ?_);exact B1 x.z
 ·rcases C5.mp hy with hy | hy
  ·exact x.kind y hy
  ·exact A8.mp hy▸hv
 ·have hz':=a.perm.length_eq
  rw[K9,C3,C3] at hz'
  have hz0:es.size=0:=AA.mp (D6 (A3 (B3 hz'.symm) hz))
  have:=a.perm.mem_iff.mp (U2.mpr (s6 he))
  rw[Array.eq_empty_of_size_eq_zero hz0] at this
  refine wg (A8.mp this) ?_
  exact (m q).lone hz0
theorem add_step {Q:Bool→Shared→Prop} (hS:S∈ρ.p) (hu:A.units+80<cLine) (x:HQ w s.heap ρ S l mode es ep t l') (hv:okM mode v) (r:RV s.heap ρ v u) (hz:l.length<100) (hz2:mode=false→l.length≤1)
  (hQ:∀b h' tk es' ep' t' l2,K5 S s.heap h'→HQ w h' ρ S (l++[v]) mode es' ep' t' l2→Q b {s with heap:=h',toks:=tk}):wpAny (model prog w) A (setAdd S u) Q E s:=by
 have kv:=okM_key hv
 refine D4 (A1 (Dc 8 v kv (un hu rfl) r ?_))
 generalize s.toks+Cl v=tk
 have hlen:es.size=l'.length:=by exact wg x.se.len (wg C3 rfl)
 have hlz:=x.z
 have same:∀b,v∈l→Q b {s with toks:=tk}:=fun b hm=>hQ b s.heap tk es ep t l' ⟨rfl,fun zz zz=>rfl⟩
  ⟨x.o,x.ok,x.led,x.nd,fun y=>(x.mem y).trans ⟨fun h=>C5.mpr (.inl h),fun h=>(C5.mp h).elim id fun h=>A8.mp h▸hm⟩,by refine wg A7 ?_;exact E7 x.z,x.se,
   fun y hy=>(C5.mp hy).elim (x.kind y) fun h=>A8.mp h▸hv,x.small⟩
 have hmem:v∈l↔∃e∈es.toList,RV s.heap ρ v e.2:=by
  constructor
  ·intro hm
   refine BD (x.se.to v ((x.mem v).mpr hm)) fun e q1 q2=>?_
   exact ⟨e,q1,q2.2⟩
  ·rintro ⟨e,q1,q2⟩
   refine BD (x.se.of e q1) fun v' w1 w2=>?_
   have hm':=(x.mem v').mp w1
   refine wg (RV.inj kv (okM_key (x.kind v' hm')) q2 w2.2) ?_;exact hm'
 have hk:∀{h'},K5 S s.heap h'→∀{v u},RV s.heap ρ v u→RV h' ρ v u:=fun hs=>RV.keep ⟨fun hn e=>⟨hn,BG hs e fun q=>hn.2 (q▸hS)⟩,id⟩
 cases mode with
 | true=>
  refine ex1 hv fun i hh1=>?_;clear hv;obtain rfl:=hh1
  refine ex1 (id r) fun tu hh1=>?_;obtain rfl:=hh1
  have el:∀e∈es.toList,∃i' t',e.1=(intKind prog w).hash i'∧e.2= .int i' t':=fun e he=>by
   refine BD (x.se.of e he) fun v' w1 w2=>?_
   refine ex1 (x.kind v' ((x.mem v').mp w1)) fun i' hh1=>?_;obtain rfl:=hh1
   refine an2 w2 fun h1 hh=>?_;clear w2;refine ex1 hh fun t' h2=>?_;clear hh
   exact ⟨i',t',h1,h2⟩
  have hel:ElemsOf (intKind prog w) es.toList:=fun e he=>by
   refine CU (el e he) fun i' t' h1 h2=>?_
   refine wg h2 ?_
   exact ⟨⟨i',intKind_is _ _ _ _,h1⟩,rfl⟩
  have hany:es.toList.any (fun e=>(intKind prog w).is i e.2)=true↔V.int i∈l:=by
   rw[List.any_eq_true,hmem]
   constructor
   ·rintro ⟨e,q1,q2⟩
    refine ex1 (Value.isInt_shape q2) fun t' e'=>?_
    exact ⟨e,q1,t',e'⟩
   ·rintro ⟨e,q1,t',e'⟩
    exact ⟨e,q1,by refine wg e' ?_;exact intKind_is _ _ _ _⟩
  refine add_scan (s:={s with toks:=tk}) (knd:=intKind prog w) (intKind_is _ _ _ _) rfl x.o x.ok hel (by unfold scanBound;exact upl (T7 (C2 (A3 (B3 hlen) hlz) hz)) rfl) (fun q=>same _ (hany.mp q)) fun q h' es' ep' t' a1 a2 a3 a4 a5=>?_
  refine ex1 (x.add (v:= .int i) ⟨i,rfl⟩ (fun hm=>by rw[hany.mpr hm] at q;cases q) ⟨a1,a2,a3,a4,a5⟩ r (hk a1) (fun q=>nomatch q)) fun l2 y=>?_
  exact hQ _ h' tk es' ep' t' l2 a1 y
 | false=>
  refine an3 (x.small rfl) fun m1 m2 m3=>?_
  have hz1:=hz2 rfl
  have few:es.size≤1:=A3 (B3 hlen) (A3 hlz hz1)
  refine an2 (id hv) fun zz hh=>?_;refine ex1 hh fun lv hh1=>?_;clear hh;obtain rfl:=hh1
  refine CU (id r) fun a us hh2 zz=>?_;obtain rfl:=hh2
  refine add_tup (s:={s with toks:=tk}) (un hu rfl) x.o ⟨m1,m2,x.ok,few,m3 few,fun i e he=>?_⟩ kv r rfl (fun q=>same _ (hmem.mpr q)) fun q h' es' ep' t' a1 a2=>?_
  ·refine BD (x.se.of e (U2.mpr (s6 he))) fun v' w1 w2=>?_
   refine an2 (x.kind v' ((x.mem v').mp w1)) fun k' hh=>?_;refine ex1 hh fun l0 hh1=>?_;clear hh;obtain rfl:=hh1
   exact ⟨l0,w2.1,k',w2.2⟩
  ·refine ex1 (x.add hv (fun hm=>by obtain ⟨e,q1,q2⟩:=hmem.mp hm;exact q e q1 q2) a1 r (hk a1.sb) fun zz=>a2) fun l2 y=>?_
   exact hQ _ h' tk es' ep' t' l2 a1.sb y
end
section
variable {prog:Program} {w:World} {A:Around} {ρ:Rho} {S I L:Addr} {vs:List V} {mode:Bool} {us:Array Value} {n:Nat}
noncomputable def HR (w:World) (h:Heap) (ρ:Rho) (S:Addr) (l:List V) (mode:Bool):Prop:=∃es ep t l',HQ w h ρ S l mode es ep t l'
theorem HR.keep {h h':Heap} {l:List V} (x:HR w h ρ S l mode) (hs:∀o,h.get? S=some o→h'.get? S=some o) (K:Bu h ρ h' ρ):HR w h' ρ S l mode:=
 x.imp fun es x=>x.imp fun ep x=>x.imp fun t x=>x.imp fun l' y=>⟨hs _ y.o,y.ok,y.led,y.nd,y.mem,y.z,y.se.keep (RV.keep K),y.kind,y.small⟩
structure SL (w:World) (h:Heap) (ρ:Rho) (S I L:Addr) (vs:List V) (mode:Bool) (us:Array Value) (n i:Nat):Prop where
 le:i≤us.size
 o:h.get? L=some (BL us n)
 r:RVs h ρ vs us.toList
 it:h.IsListIter I L i
 st:HR w h ρ S (vs.take i) mode
theorem setLoop (hh:A.handled=none) (hu:A.units+90<cLine) (hS:S∈ρ.p) (hI:I∈ρ.p) (hSI:S≠I) (hLS:L≠S) (hLI:L≠I) (hok:∀v∈vs,okM mode v) (hz:vs.length<90) (hz2:mode=false→vs.length≤2) {R:Result→Shared→Prop}:
  ∀{m i:Nat} {s:Shared},us.size - i=m→SL w s.heap ρ S I L vs mode us n i→
   (∀h' tk,HR w h' ρ S vs mode→(∀b o,b≠S→b≠I→s.heap.get? b=some o→h'.get? b=some o)→R (.ok (.ret .none)) {s with heap:=h',toks:=tk})→
   codeAny (model prog w) A (.builtin "set.update.loop" ⟨[.ref S,.ref I],[]⟩) R s:=by
 intro m
 induction m with
 | zero=>
  intro i s hm H hR
  have hin:us.size≤i:=s7 hm
  refine O7 F.entry_set_update_loop ?_
  refine wg (M3 m6 _) ?_
  show wpAny _ A.in1 (pyNext (.ref I) >>=_) _ _ s
  refine A1 (r8 hh H.it (Bm H.o) (O0 hin) fun h' he=>?_)
  refine A5 (hR h' s.toks ?_ fun b o zz hb e=>he b o hb e)
  have hst:=H.st
  rw[Q9 (A3 (B3 (H.r.len.trans C3)) hin)] at hst
  exact hst.keep (fun o e=>he S o hSI e) ⟨fun hn e=>⟨hn,he _ _ (fun q=>hn.2 (q▸hI)) e⟩,id⟩
 | succ m ih=>
  intro i s hm H hR
  have lt:i<us.size:=Nat.lt_of_sub_eq_succ hm
  have ltv:i<vs.length:=A9 lt (B3 (H.r.len.trans C3).symm)
  have hx:us[i]?=some us[i]:=J2 lt
  have hv:vs[i]?=some vs[i]:=B4 ltv
  have rv:RV s.heap ρ vs[i] us[i]:=(H.r.get hv).elim fun u h=>G9 (hx.symm.trans (D7.symm.trans h.1))▸h.2
  have htk:vs.take (i+1)=vs.take i++[vs[i]]:=Y9 ltv
  have z1:(vs.take i).length≤i:=AK ..
  generalize vs[i]=v at hv rv htk
  refine O7 F.entry_set_update_loop ?_
  refine wg (M3 m6 _) ?_
  show wpAny _ A.in1 (pyNext (.ref I) >>=_) _ _ s
  refine A1 (o5 H.it (Bm H.o) hx fun h' hit' hs=>?_)
  have K:Bu s.heap ρ h' ρ:=⟨fun hn e=>⟨hn,BG hs e fun q=>hn.2 (q▸hI)⟩,id⟩
  have ho':=BG hs H.o hLI
  refine ex3 (H.st.keep (fun o e=>BG hs e hSI) K) fun es ep t hh=>?_;refine ex1 hh fun l' x=>?_;clear hh
  show wpAny _ A.in1 (holding [us[i]] (setAdd S us[i]) >>=_) _ _ _
  refine A1 (D4 (add_step (s:={s with heap:=h'}) hS (U0 (i5 (by decide:81<90) A.units) hu) x (hok v (B9 hv)) (rv.keep K) (C2 z1 (U0 ltv (U0 hz (by decide)))) (fun q=>A3 z1 (E6 (A9 ltv (hz2 q)))) fun b h2 tk es' ep' t' l2 hs2 x2=>?_))
  have K2:Bu h' ρ h2 ρ:=⟨fun hn e=>⟨hn,BG hs2 e fun q=>hn.2 (q▸hS)⟩,id⟩
  refine A5 ⟨W0 m6 _,ih (i:=i+1) (congrArg Nat.pred hm) ⟨lt,BG hs2 ho' hLS,(H.r.keep K).keep K2,hit'.extBut hs2.extBut (N6 hSI),htk▸⟨es',ep',t',l2,x2⟩⟩ fun h3 tk3 x3 hk3=>?_⟩
  exact hR h3 tk3 x3 fun b o hb hb' e=>hk3 b o hb hb' (BG hs2 (BG hs e hb') hb)
end
noncomputable def CC (w:World):Obj:={cls:= .type "set",dict:=none,data:= .set #[] 0 (.fresh 0 0 (!w.params.followText "set-order"))}
section
variable {prog:Program} {w:World} {A:Around} {E:Value→Shared→Prop} {s:Shared} {ρ:Rho} {L:Addr} {vs:List V} {mode:Bool} {us:Array Value} {n:Nat}
theorem set_new_led {a:Value} {Q₁:Value→Shared→Prop} (h:Q₁ (.ref s.heap.objs.size) {s with heap:=s.heap.push (CC w)}):
  codeAny (model prog w) A (.call (.builtin "set.__new__") ⟨[.type "set",a],[]⟩) (wants Q₁ E) s:=by
 refine codeAny_of_tree ?_
 refine A1 (An (PySem.F.newCall_set_1 a) (A5 ⟨W0 F.plain_set_new _,O7 F.entry_set_new ?_⟩))
 refine wg (M3 F.plain_set_new _) ?_
 unfold m9.«set.__new__» Builtin.Frozenset.newClass
 have hsub:=sub_set_self
 obtain ⟨hp,g,d,tk,os⟩:=s
 wp_walk
 refine T6 (A5 ?_)
 exact A1 (wpAny_alloc (A5 (A5 h)))
set_option maxRecDepth 100000 in
set_option maxHeartbeats 3200000 in
theorem set_called {L:Addr} {Q:Value→Shared→Prop}
  (hi:wpAny (model prog w) A.in1.in1 (m9.«set.__init__» ⟨[.ref s.heap.objs.size,.ref L],[]⟩) (fun fin s'=>match fin with | .done f=>wants (fun r s₂=>r= .none∧Q (.ref s.heap.objs.size) s₂) E (.ok f) s' | .again c'=>c'.quiet=true∧codeAny (model prog w) A.in1 c' (wants (fun r s₂=>r= .none∧Q (.ref s.heap.objs.size) s₂) E) s')
    (fun e s'=>wants (fun r s₂=>r= .none∧Q (.ref s.heap.objs.size) s₂) E (.error e) s') {s with heap:=s.heap.push (CC w)}):
  wpAny (model prog w) A (call (.type "set") [.ref L]) Q E s:=by
 refine ex2 c7.mro fun c tl hmro=>?_
 have hmade:=c7.made
 have hsub:=c7.sub
 refine wpAny_call (codeAny_of_tree ?_)
 refine A5 ⟨Code.quiet_builtin _ (by decide+kernel),O7 F.entry_type_call ?_⟩
 refine wg (Around.under_plain (weight_type_call_type "set" [.ref L] []) rfl) ?_
 have h1:=c7.notType
 have h2:=c7.canCreate
 have hct:=PySem.F.typeCall_set_1 (.ref L)
 repeat (any_goals (first | assumption | wp_step))
 refine codeAny_mono (set_new_led (a:= .ref L) (E:=E) (Q₁:=fun obj s₁=>obj= .ref s.heap.objs.size∧s₁={s with heap:=s.heap.push (CC w)}) ⟨rfl,rfl⟩) fun r s₁ hr1=>?_
 cases r with
 | error e=>exact hr1
 | ok fl=>
  cases fl with
  | ret obj=>
   refine an2 hr1 fun hh0 hh1=>?_;clear hr1;obtain rfl:=hh0;obtain rfl:=hh1
   have hS:(s.heap.push (CC w)).get? s.heap.objs.size=some (CC w):=B0 _ rfl
   have hT:Ar {s with heap:=s.heap.push (CC w)} (.ref s.heap.objs.size) "set":=⟨_,hS,rfl⟩
   have hli:=c7.init.lookup
   have hbi:=c7.init.bind (.ref s.heap.objs.size)
   repeat (any_goals (first | assumption | wp_step))
   refine codeAny_mono (codeAny_call_builtin (R:=wants (fun r s₂=>r= .none∧Q (.ref s.heap.objs.size) s₂) E) c7.init.plain F.entry_set_init (check_set_init_1 hT hi)) fun r₂ s₂ hr₂=>?_
   cases r₂ with
   | error e=>exact hr₂
   | ok fl₂=>
    cases fl₂ with
    | ret r=>
     refine an2 hr₂ fun hh0 hq=>?_;clear hr₂;obtain rfl:=hh0
     repeat (any_goals (first | assumption | wp_step))
    | _=>exact hr₂.elim
  | _=>exact hr1.elim
end
section
variable {prog:Program} {w:World} {A:Around} {E:Value→Shared→Prop} {s:Shared} {ρ:Rho} {L:Addr} {vs:List V} {mode:Bool} {us:Array Value} {n:Nat}
set_option maxRecDepth 100000 in
set_option maxHeartbeats 3200000 in
theorem call_set_V {Q:Value→Shared→Prop} (hu:A.units+100<cLine) (hok:∀v∈vs,okM mode v) (hz:vs.length<90) (hz2:mode=false→vs.length≤2)
  (hh:A.handled=none) (ho:s.heap.get? L=some (BL us n)) (hr:RVs s.heap ρ vs us.toList)
  (h:∀(h':Heap) (tk:Nat),HR w h' ⟨ρ.l,[s.heap.objs.size+1,s.heap.objs.size]++ρ.p⟩ s.heap.objs.size vs mode→(∀b o,s.heap.get? b=some o→h'.get? b=some o)→Q (.ref s.heap.objs.size) {s with heap:=h',toks:=tk}):
  wpAny (model prog w) A (call (.type "set") [.ref L]) Q E s:=by
 refine set_called ?_
 have hol:=BC (o:=CC w) _ _ ho
 have hsls:=PySem.F.sub_list_set
 have hslf:=PySem.F.sub_list_frozenset
 have hne:(Ae "list"==Ae "dict")=false:=by decide
 have hl1:(s.heap.push (CC w)).IsList L us:=Bm hol
 have hlT:Ar {s with heap:=s.heap.push (CC w)} (.ref L) "list":=⟨_,hol,rfl⟩
 unfold m9.«set.__init__» noKeywords Builtin.Frozenset.updateFrom
 generalize hPI:pyIter=PI
 wp_walk
 subst hPI
 refine o6 hl1 (A1 (wpAny_runValue ?_))
 have z:(s.heap.push (CC w)).objs.size=s.heap.objs.size+1:=H8 ..
 refine wg z ?_
 have hL:=G1 ho
 have k2:∀b o,s.heap.get? b=some o→((s.heap.push (CC w)).push {cls:= .type "list_iterator",data:= .fields #[.ref L,.int 0 0]}).get? b=some o:=fun b o e=>BC _ _ (BC _ _ e)
 have K:Bu s.heap ρ ((s.heap.push (CC w)).push {cls:= .type "list_iterator",data:= .fields #[.ref L,.int 0 0]}) ⟨ρ.l,[s.heap.objs.size+1,s.heap.objs.size]++ρ.p⟩:=⟨fun {a o} hn e=>⟨⟨hn.1,fun m=>(C5.mp m).elim (fun m=>by
  have:=G1 e
  rcases C4.mp m with q | m
  ·exact absurd q (E4 (M5 this))
  ·exact absurd (A8.mp m) (E4 this)) hn.2⟩,k2 _ _ e⟩,id⟩
 refine setLoop (mode:=mode) (vs:=vs) (us:=us) (n:=n) (ρ:=⟨ρ.l,[s.heap.objs.size+1,s.heap.objs.size]++ρ.p⟩) (L:=L) (by exact hh) (un2 hu rfl) (.tail _ (.head _)) (.head _) (E4 (G7 _)) (E4 hL) (E4 (M5 hL)) hok hz hz2 rfl ⟨E2 _,BC _ _ hol,hr.keep K,⟨_,z▸B0 _ rfl,rfl,rfl⟩,?_⟩ fun h' tk x hk=>?_
 ·exact ⟨#[],0,.fresh 0 0 (!w.params.followText "set-order"),[],BC _ _ (B0 _ rfl),⟨rfl,E2 _,List.Pairwise.nil⟩,rfl,N4,fun v=>f8,B2 _,rfl,(fun zz m=>nomatch m),fun zz=>⟨rfl,rfl,fun zz e q=>nomatch q⟩⟩
 ·refine A5 (A5 ⟨rfl,h h' tk x fun b o e=>hk b o (E4 (G1 e)) (E4 (M5 (G1 e))) (k2 b o e)⟩)
end
set_option backward.match.sparseCases true
theorem GY:entryFor table "set.__iter__"=some m9.«frozenset.__iter__»:=entryFor_alias (id':="frozenset.__iter__") (by kernel_rfl) rfl (by decide+kernel) (by kernel_rfl)
theorem DD:entryFor table "set_iterator.__next__"=some m9.«set_iterator.__next__»:=entryFor_of_tree (by kernel_rfl)
theorem Be:Slot "set_iterator" "__next__" "set_iterator.__next__":=
 .of (owner:="set_iterator") (n:="__next__") (by refine wg (typeLookup_type ..) (wg r9 ?_);kernel_rfl) (by decide+kernel) (by decide+kernel) (by decide+kernel)
  (by first | exact .inl (by decide+kernel) | exact .inr (by decide+kernel)) (by refine wg (isSubtype_type ..) ?_;kernel_rfl)
theorem Eh:Manifest.owners.lookup (String.ofList ['r','o','t','a','r','e','t','i','_','t','e','s'].reverse)=some Manifest.sig_set_iterator:=by kernel_rfl
theorem DO (a:Value):argsOk "set_iterator.__next__" ⟨[a],[]⟩:=by
 unfold argsOk;refine wg (signature?_of (id:="set_iterator.__next__") (n:=['_','_','t','x','e','n','_','_']) (o:=['r','o','t','a','r','e','t','i','_','t','e','s']) (by kernel_rfl) Eh) ?_;kernel_rfl
theorem Ei {α:Type}:∀{l:List α} {i:Nat} (h:i<l.length),(l[i]::l.eraseIdx i).Perm l
 | x::l,0,h=>.refl _
 | x::l,i+1,h=>(List.Perm.swap _ _ _).trans ((Ei (l:=l) (i:=i) (by simpa using h)).cons x)
theorem pick_go {α:Type} {next:Nat→Nat}:∀(fuel k:Nat) (left:List α) (out:Array α),left.length=fuel→∃l,l.Perm left∧(pickOrder.go next fuel k left out).toList=out.toList++l
 | 0,k,left,out,h=>⟨left,.refl _,by refine wg (N8.mp h) ?_;exact (D8 _).symm⟩
 | fuel+1,k,left,out,h=>by
  have hlt:next k%left.length<left.length:=Nat.mod_lt _ (h.symm▸L0 fuel)
  have e:pickOrder.go next (fuel+1) k left out=pickOrder.go next fuel (k+1) (left.eraseIdx (next k%left.length)) (out.push left[next k%left.length]):=by
   show (match left[next k%left.length]? with | some x=>_ | none=>_)=_
   exact wg (B4 hlt) rfl
  refine wg e ?_
  obtain ⟨l,h1,h2⟩:=pick_go fuel (k+1) (left.eraseIdx (next k%left.length)) (out.push left[next k%left.length]) (by refine wg (List.length_eraseIdx_of_lt hlt) (wg h ?_);rfl)
  refine ⟨left[next k%left.length]::l,(h1.cons _).trans ?_,by refine wg h2 (wg U9 (wg (E5 ..) ?_));rfl⟩
  exact Ei hlt
theorem pick_perm {α:Type} (next:Nat→Nat) (xs:Array α):(pickOrder next xs).toList.Perm xs.toList:=by
 refine BD (pick_go (next:=next) xs.size 0 xs.toList #[] C3) fun l h1 h2=>?_
 exact (show (pickOrder next xs).toList=l from h2).symm▸h1
section
variable {prog:Program} {w:World} {A:Around} {E:Value→Shared→Prop} {s:Shared} {ρ:Rho}
theorem Hz {src:Source} {n:Nat} {Q:Nat→Shared→Prop} (hn:n≠0) (h:∀k d,k<n→Q k {s with drawn:=d}):wpAny (model prog w) A (choose src n) Q E s:=fun Γ p zz=>by
 unfold choose
 refine wg (Sem.wp_choose ..) ?_
 exact ⟨hn,h _ _ (Nat.mod_lt _ (Nat.pos_of_ne_zero hn))⟩
theorem Dp {α:Type}:∀(n:Nat) (xs:List α) {s:Shared} {Q:List α→Shared→Prop},xs.length=n→(∀l d,l.Perm xs→Q l {s with drawn:=d})→wpAny (model prog w) A (drawOrder n xs) Q E s
 | 0,xs,s,Q,hz,h=>by
  exact A5 (h [] s.drawn (by rw[N8.mp hz]))
 | n+1,[],s,Q,hz,h=>nomatch hz
 | n+1,x::xs,s,Q,hz,h=>by
  ·refine A1 (Hz (Nat.succ_ne_zero _) fun i d hi=>?_)
   refine wg (B4 hi) ?_
   dsimp only
   refine A1 (Dp n _ (by refine wg (List.length_eraseIdx_of_lt hi) ?_;exact Q3 hz) fun l d' hl=>?_)
   refine A5 (h _ d' ((hl.cons _).trans ?_))
   exact Ei hi
theorem Ey {S:Addr} {es:Array (Int×Value)} {ep slot k:Nat} {t:SetTable} {Q:Option (Value×Nat)→Shared→Prop} (ho:s.heap.get? S=some (Bk es ep t)) (ht:t.fits es.size=true) (hb:w.params.followText "set-order"=true)
  (h:Q (((pickOrder (w.params.setOrder S ep) es)[k]?).map fun e=>(e.2,slot)) s):wpAny (model prog w) A (setNext S slot k ep) Q E s:=by
 refine A1 (L7 ho rfl ht ?_)
 dsimp only
 refine A1 (A1 (T6 (A5 ?_)))
 show wpAny _ _ (if w.params.followText "set-order"=true then _ else _) Q E s
 refine wg (if_pos hb) (wg (if_neg (by rw[bne_self_eq_false];exact D3)) ?_)
 refine A1 (A1 (L7 ho rfl ht ?_))
 refine A1 (A1 (T6 (A5 ?_)))
 show wpAny _ _ (if w.params.followText "set-order"=true then _ else _) _ E s
 refine wg (if_pos hb) ?_
 refine A1 (T6 (A5 (A5 ?_)))
 exact h
theorem Ec {S:Addr} {es:Array (Int×Value)} {ep slot k:Nat} {t:SetTable} {Q:Option (Value×Nat)→Shared→Prop} (ho:s.heap.get? S=some (Bk es ep t)) (ht:t.fits es.size=true) (hb:w.params.followText "set-order"=false)
  (hp:t.plain=true∨es.size≤1) (hl:t.led=true)
  (h:Q (match es[H2 t.place slot]?,t.place[H2 t.place slot]? with
   | some (_,x),some j=>some (x,j+1)
   | _,_=>none) s):wpAny (model prog w) A (setNext S slot k ep) Q E s:=by
 refine A1 (L7 ho rfl ht ?_)
 dsimp only
 refine A1 (A1 (T6 (A5 ?_)))
 show wpAny _ _ (if w.params.followText "set-order"=true then _ else _) Q E s
 refine wg (if_neg (by rw[hb];exact D3)) ?_
 show wpAny _ _ (if (!t.plain&&decide (es.size>1))=true then _ else ((if (!t.led&& !es.isEmpty)=true then unsupported "set:maker-not-led" else pure ()) >>=_)) Q E s
 have h1:(!t.plain&&decide (es.size>1))=false:=by
  rcases hp with hp | hp
  ·refine wg hp ?_;rfl
  ·refine wg (decide_eq_false (G4.mpr hp)) ?_;exact Bool.and_false _
 refine wg h1 (wg (if_neg D3) (wg hl ?_))
 show wpAny _ _ ((if false=true then _ else pure ()) >>=_) _ _ _
 refine wg (if_neg D3) ?_
 exact A1 (A5 (A5 h))
end
set_option backward.match.sparseCases false
theorem bel_one {xs:List Nat} {j i k:Nat} (a:Bel xs j i) (b:Bel xs j k) (h:i<k):False:=
 have hi:i<xs.length:=A9 h b.z
 absurd (b.a xs[i] (List.mem_take_iff_getElem.mpr ⟨i,Nat.lt_min.mpr ⟨h,hi⟩,rfl⟩)) (G4.mpr (a.b xs[i] (by refine wg (J1 hi) ?_;exact .head _)))
theorem below_at {xs:Array Nat} (hr:DC xs) {j i:Nat} (b:Bel xs.toList j i):H2 xs j=i:=
 (Nat.lt_trichotomy (H2 xs j) i).elim (fun h=>(bel_one (DN hr j) b h).elim) fun h=>h.elim id fun h=>(bel_one b (DN hr j) h).elim
theorem below_zero {xs:Array Nat} (hr:DC xs):H2 xs 0=0:=below_at hr ⟨E2 _,(fun zz m=>nomatch m),fun zz zz=>E2 _⟩
theorem below_next {xs:Array Nat} (hr:DC xs) {i:Nat} (hi:i<xs.size):H2 xs (xs[i]+1)=i+1:=by
 refine below_at hr ⟨hi,fun y hy=>I7 ((Hx hr (m:=i) hi).1 y hy),fun y hy=>?_⟩
 have h2:=hr.sublist (List.drop_sublist i xs.toList)
 rw[J1 (show i<xs.toList.length from hi)] at h2
 exact (c6.mp h2).1 y hy
section
variable {prog:Program} {w:World} {A:Around} {E:Value→Shared→Prop} {s:Shared} {S:Addr} {es:Array (Int×Value)} {ep:Nat} {t:SetTable}
theorem Db {Q:Array (Int×Value)→Shared→Prop} (ho:s.heap.get? S=some (Bk es ep t)) (ht:t.fits es.size=true) (h:Q es s):wpAny (model prog w) A (setEntries S) Q E s:=by
 unfold setEntries
 exact A1 (L7 ho rfl ht (A5 h))
theorem Fv {Q:Nat→Shared→Prop} (ho:s.heap.get? S=some (Bk es ep t)) (ht:t.fits es.size=true) (h:Q ep s):wpAny (model prog w) A (setEpoch S) Q E s:=by
 unfold setEpoch
 exact A1 (L7 ho rfl ht (A5 h))
end
section
variable {prog:Program} {w:World} {A:Around} {E:Value→Shared→Prop} {s:Shared}
structure Ed (w:World) (h:Heap) (I S:Addr) (es:Array (Int×Value)) (ep:Nat) (t:SetTable) (seq:List Value) (k:Nat):Prop where
 ex:∃first,h.get? I=some {cls:= .type "set_iterator",data:= .fields #[first,.int k 0,.ref S,.int es.size 0,.int ep 0]}∧
  ((w.params.followText "set-order"=true∧first= .int 0 0∧seq=((pickOrder (w.params.setOrder S ep) es).toList.map (·.2)))∨
   (w.params.followText "set-order"=false∧(t.plain=true∨es.size≤1)∧(∃sl:Nat,first= .int sl 0∧H2 t.place sl=k)∧seq=es.toList.map (·.2))∨
   (∃(T:Addr) (ps:List Nat) (n:Nat),first= .ref T∧T≠I∧T≠S∧h.get? T=some (seqObj "tuple" (ps.map fun (i:Nat)=>Av i 0).toArray n)∧ps.length=es.size∧(∀i∈ps,i<es.size)∧seq=ps.map fun i=>(es.getD i (0,.none)).2))
theorem iter_set {S:Addr} {es:Array (Int×Value)} {ep:Nat} {t:SetTable} {Q:Value→Shared→Prop} (ho:s.heap.get? S=some (Bk es ep t)) (ht:TOk t es.size) (hz:es.size<100) (hl:t.led= !w.params.followText "set-order")
  (h:∀I h' d seq,S<I→s.heap.objs.size≤I→(∀b o,s.heap.get? b=some o→h'.get? b=some o)→Ed w h' I S es ep t seq 0→seq.Perm (es.toList.map (·.2))→Q (.ref I) {s with heap:=h',drawn:=d}):
  wpAny (model prog w) A (pyIter (.ref S)) Q E s:=by
 have hT:s.TypeIs (.ref S) "set":=⟨_,ho,rfl⟩
 have hS:=G1 ho
 refine wpAny_pyIter_slot hT F.slot_set_iter (H9 F.slot_set_iter hT GY ?_ (F.args_set_iter_1 _))
 show wpAny _ _ (Builtin.Frozenset.sizeOf S >>=_) _ _ s
 refine A1 (A1 (Db ho ht.fits (A5 ?_)))
 refine A1 (A1 (L7 ho rfl ht.fits ?_))
 refine A1 (A1 (T6 (A5 ?_)))
 refine A5 ?_
 show wpAny _ _ (if (!w.params.followText "set-order"&&(!t.plain&&decide (es.size>1)))=true then _ else _) _ _ s
 by_cases hd:(!w.params.followText "set-order"&&(!t.plain&&decide (es.size>1)))=true
 ·refine wg (if_pos hd) ?_
  refine A1 (Dp es.size _ (by simp) fun ps d hp=>?_)
  have hpl:ps.length=es.size:=by refine wg hp.length_eq ?_;simp
  refine A1 (o8 ?_ (by refine wg (A4 ..) (wg hpl (wg M0 ?_));exact up (D9 hz) rfl))
  have ho1:=BC (o:=seqObj "tuple" (ps.map fun (i:Nat)=>rawInt i).toArray 0) _ _ ho
  refine A1 (Fv ho1 ht.fits ?_)
  have hT1:(s.heap.push (seqObj "tuple" (ps.map fun (i:Nat)=>rawInt i).toArray 0)).get? s.heap.objs.size=some (seqObj "tuple" (ps.map fun (i:Nat)=>rawInt i).toArray 0):=B0 _ rfl
  refine A1 (J0 (A5 ⟨_,rfl,"set_iterator",_,⟨_,B0 _ rfl,rfl⟩,Be.lookup,?_⟩))
  have hne:s.heap.objs.size≠(s.heap.push (seqObj "tuple" (ps.map fun (i:Nat)=>rawInt i).toArray 0)).objs.size:=by refine wg (H8 ..) ?_;exact E4 (G7 _)
  refine h _ _ d (ps.map fun i=>(es.getD i (0,.none)).2) (by refine wg (H8 ..) ?_;exact M5 hS) (by refine wg (H8 ..) ?_;exact O9 _) (fun b o e=>BC _ _ (BC _ _ e)) ⟨.ref s.heap.objs.size,B0 _ rfl,.inr (.inr ⟨_,ps,0,rfl,hne,J6 hS,BC _ _ hT1,hpl,fun i hi=>?_,rfl⟩)⟩ ?_
  ·have:=hp.mem_iff.mp hi;simpa using this
  ·have h1:=hp.map fun i=>(es.getD i (0,.none)).2
   refine h1.trans ?_
   have:(J9 es.size).map (fun i=>(es.getD i (0,I5)).2)=es.toList.map (·.2):=by
    apply W4
    ·simp
    ·intro i h1 h2
     simp only[A4,P0] at h1
     simp[h1]
   rw[this]
 ·refine wg (if_neg hd) ?_
  refine A1 (A5 ?_)
  refine A1 (Fv ho ht.fits ?_)
  refine A1 (J0 (A5 ⟨_,rfl,"set_iterator",_,⟨_,B0 _ rfl,rfl⟩,Be.lookup,?_⟩))
  by_cases hb:w.params.followText "set-order"=true
  ·exact h _ _ s.drawn _ hS (B2 _) (fun b o e=>BC _ _ e) ⟨_,B0 _ rfl,.inl ⟨hb,rfl,rfl⟩⟩ ((pick_perm _ es).map _)
  ·have hb:w.params.followText "set-order"=false:=by simpa using hb
   refine h _ _ s.drawn _ hS (B2 _) (fun b o e=>BC _ _ e) ⟨_,B0 _ rfl,.inr (.inl ⟨hb,?_,⟨0,rfl,below_zero ht.rising⟩,rfl⟩)⟩ (.refl _)
   rw[hb] at hd
   simp only[Bool.not_false,u9,T5,g7,decide_eq_true_eq] at hd
   by_cases hp:t.plain=true
   ·exact .inl hp
   ·have hp:t.plain=false:=by simpa using hp
    exact .inr (Nat.le_of_not_lt fun q=>hd ⟨hp,q⟩)
end
section
variable {prog:Program} {w:World} {A:Around} {E:Value→Shared→Prop} {s:Shared}
theorem Ed.typeIs {h:Heap} {I S:Addr} {es:Array (Int×Value)} {ep:Nat} {t:SetTable} {seq k} (x:Ed w h I S es ep t seq k) {s:Shared} (e:s.heap=h):s.TypeIs (.ref I) "set_iterator":=by
 refine BD x.ex fun f h1 zz=>?_
 subst e;exact ⟨_,h1,rfl⟩
theorem next_set {I S:Addr} {es:Array (Int×Value)} {ep:Nat} {t:SetTable} {seq:List Value} {k:Nat} {x:Value} {Q:Option Value→Shared→Prop} (hSI:S≠I) (ho:s.heap.get? S=some (Bk es ep t)) (ht:TOk t es.size) (hl:t.led= !w.params.followText "set-order")
  (hit:Ed w s.heap I S es ep t seq k) (hx:seq[k]?=some x) (hQ:∀h',Ed w h' I S es ep t seq (k+1)→K5 I s.heap h'→Q (some x) {s with heap:=h'}):
  wpAny (model prog w) A (pyNext (.ref I)) Q E s:=by
 have hT:=hit.typeIs rfl
 refine BD hit.ex fun first hI hm=>?_
 refine A1 (u7 (K8 (name:=C7 "__next__") hT Be
  (H9 Be hT DD ?_ (DO _))))
 refine A1 (A5 ?_)
 refine A1 (wpAny_fieldsOf hI rfl ?_)
 dsimp only
 refine A1 (Db ho ht.fits ?_)
 refine wg (if_neg (by simp)) ?_
 rcases hm with ⟨hb,rfl,rfl⟩ | ⟨hb,hp,⟨sl,rfl,hsl⟩,rfl⟩ | ⟨T,ps,n,rfl,hTI,hTS,hT1,hpl,hps,rfl⟩
 ·simp only[N3]
  refine A1 (Ey ho ht.fits hb ?_)
  refine wh D7 ?_
  rw[G0] at hx
  refine BD (I9.mp hx) fun e he hh2=>?_;obtain rfl:=hh2
  refine wg he ?_
  dsimp only[V3]
  refine A1 (O6 hI rfl (A6 rfl) ?_)
  have hI1:(s.heap.update I (u8 (·.setIfInBounds 0 (rawInt (((0:Int).toNat:Nat):Int))))).get? I=some {cls:= .type "set_iterator",data:= .fields #[.int 0 0,.int k 0,.ref S,.int es.size 0,.int ep 0]}:=by
   refine wg (F4 _ hI rfl) ?_;rfl
  refine A1 (O6 hI1 rfl (A6 rfl) ?_)
  refine A5 ⟨_,rfl,A5 (hQ _ ⟨.int 0 0,?_,.inl ⟨hb,rfl,rfl⟩⟩ ((C9 ..).trans (C9 ..)))⟩
  refine wg (F4 _ hI1 rfl) ?_;rfl
 ·simp only[N3]
  refine A1 (Ec ho ht.fits hb hp (by refine wg hl (wg hb ?_);rfl) ?_)
  refine wg hsl ?_
  rw[G0,D7] at hx
  refine BD (I9.mp hx) fun e he hh2=>?_;obtain rfl:=hh2
  have hk:=(M7.mp he).1
  have hk':k<t.place.size:=by refine wg ht.size ?_;exact hk
  refine wg he (wg (J2 hk') ?_)
  dsimp only
  refine A1 (O6 hI rfl (A6 rfl) ?_)
  have hI1:(s.heap.update I (u8 (·.setIfInBounds 0 (rawInt ((t.place[k]+1:Nat):Int))))).get? I=some {cls:= .type "set_iterator",data:= .fields #[.int ((t.place[k]+1:Nat):Int) 0,.int k 0,.ref S,.int es.size 0,.int ep 0]}:=by
   refine wg (F4 _ hI rfl) ?_;rfl
  refine A1 (O6 hI1 rfl (A6 rfl) ?_)
  refine A5 ⟨_,rfl,A5 (hQ _ ⟨.int ((t.place[k]+1:Nat):Int) 0,?_,.inr (.inl ⟨hb,hp,⟨_,rfl,?_⟩,rfl⟩)⟩ ((C9 ..).trans (C9 ..)))⟩
  ·refine wg (F4 _ hI1 rfl) ?_;rfl
  ·have:=below_next ht.rising hk'
   simpa [Array.getD,hk'] using this
 ·refine A1 (Q8 hT1 rfl ?_)
  rw[G0] at hx
  refine BD (I9.mp hx) fun i hi hh2=>?_;obtain rfl:=hh2
  have hi2:=hps i (B9 hi)
  have e1:(ps.map fun (i:Nat)=>Av i 0).toArray[(k:Int).toNat]?=some (.int i 0):=by
   refine wg (N3 ..) (wg s0 (wg G0 (wg hi ?_)));rfl
  dsimp only
  refine wg e1 ?_
  simp only[N3]
  refine A1 ?_
  refine A1 (L7 ho rfl ht.fits ?_)
  dsimp only
  refine wg (if_neg (by simp)) (wg (J2 hi2) ?_)
  dsimp only
  refine A5 ?_
  have e2:(es.getD i (0,I5)).2=es[i].2:=by simp[Array.getD,hi2]
  rw[e2] at hQ
  refine A1 (O6 hI rfl (A6 rfl) ?_)
  refine A5 ⟨_,rfl,A5 (hQ _ ⟨.ref T,?_,.inr (.inr ⟨T,ps,n,rfl,hTI,hTS,?_,hpl,hps,rfl⟩)⟩ (C9 ..))⟩
  ·refine wg (F4 _ hI rfl) ?_;rfl
  ·exact BG (C9 ..) hT1 hTI
theorem stop_new {α:Type} (hh:A.handled=none) {R:α→Shared→Prop} {I:Addr} {s:Shared} (h:∀e h'',U3 I s.heap h''→Ar {s with heap:=h''} e "StopIteration"→E e {s with heap:=h''}):
  wpAny (model prog w) A (newExc (.type "StopIteration") [] >>=fun e=>(raiseNew e:Sem α)) R E s:=by
 refine A1 ?_
 refine A1 (J0 ?_ (by size_fits))
 refine A1 (m:=firstArgMember _ _) (An (a:=I5) (by first | rfl | (simp only[firstArgMember];rfl)) ?_)
 refine J0 ?_ (by size_fits)
 refine A1 (wpAny_handled ?_)
 refine wg hh ?_
 refine A1 (A5 (wpAny_throw ?_))
 have e0:U3 I s.heap s.heap:=fun zz zz zz e=>e
 exact h _ _ ((e0.push _).push _) ⟨_,B0 _ rfl,rfl⟩
theorem IA (hh:A.handled=none) {I S:Addr} {es:Array (Int×Value)} {ep:Nat} {t:SetTable} {seq:List Value} {k:Nat} {Q:Option Value→Shared→Prop} (hSI:S≠I) (ho:s.heap.get? S=some (Bk es ep t)) (ht:TOk t es.size) (hl:t.led= !w.params.followText "set-order")
  (hit:Ed w s.heap I S es ep t seq k) (hx:seq.length≤k) (hp:seq.length=es.size) (hQ:∀h',U3 I s.heap h'→Q none {s with heap:=h'}):
  wpAny (model prog w) A (pyNext (.ref I)) Q E s:=by
 have hT:=hit.typeIs rfl
 refine BD hit.ex fun first hI hm=>?_
 refine A1 (u7 (K8 (name:=C7 "__next__") hT Be
  (H9 Be hT DD ?_ (DO _))))
 refine A1 (A5 ?_)
 refine A1 (wpAny_fieldsOf hI rfl ?_)
 dsimp only
 refine A1 (Db ho ht.fits ?_)
 refine wg (if_neg (by simp)) ?_
 have fin:∀(x:Sem PySem.Fin) (h1:Heap),U3 I s.heap h1→x=(newExc (.type "StopIteration") [] >>=fun e=>(raiseNew e:Sem PySem.Fin))→wpAny (model prog w) A.in1 x (fun zz zz=>False) (fun e s'=>∃h',s'={s with heap:=h'}∧U3 I s.heap h'∧s'.TypeIs e "StopIteration") {s with heap:=h1}:=fun x h1 he hx=>by
  subst hx
  exact stop_new (A:=A.in1) (s:={s with heap:=h1}) (I:=I) hh fun e h'' q1 q2=>⟨h'',rfl,fun b o hb q=>q1 b o hb (he b o hb q),q2⟩
 have last:∀e s',(∃h',s'={s with heap:=h'}∧U3 I s.heap h'∧s'.TypeIs e "StopIteration")→wpAny (model prog w) A (do if (←isInstance e (.type "StopIteration")) then pure none else throw e) Q E s':=by
  rintro e s' ⟨h',rfl,h1,h2⟩
  refine A1 (W3 (T:="StopIteration") (b:=true) h2 isSubtype_stop ?_)
  exact A5 (hQ _ h1)
 have ub:∀{f:Obj→Obj},U3 I s.heap (s.heap.update I f):=fun b o hb e=>BG (C9 ..) e hb
 rcases hm with ⟨hb,rfl,rfl⟩ | ⟨hb,hpp,⟨sl,rfl,hsl⟩,rfl⟩ | ⟨T,ps,n,rfl,hTI,hTS,hT1,hpl,hps,rfl⟩
 ·simp only[N3]
  refine A1 (Ey ho ht.fits hb ?_)
  refine wh D7 (wg (List.getElem?_eq_none (by rw[A4] at hx;exact hx)) ?_)
  dsimp only[V3]
  refine A1 (O6 hI rfl (A6 rfl) ?_)
  exact J8 (fin _ _ ub rfl) (fun zz zz h=>h.elim) last
 ·simp only[N3]
  refine A1 (Ec ho ht.fits hb hpp (by refine wg hl (wg hb ?_);rfl) ?_)
  refine wg hsl ?_
  refine wg (O0 (by rw[hp] at hx;exact hx)) ?_
  dsimp only
  refine A1 (O6 hI rfl (A6 rfl) ?_)
  exact J8 (fin _ _ ub rfl) (fun zz zz h=>h.elim) last
 ·refine A1 (Q8 hT1 rfl ?_)
  have e1:(ps.map fun (i:Nat)=>Av i 0).toArray[(k:Int).toNat]?=none:=by
   refine wg (N3 ..) (wg s0 ?_)
   exact List.getElem?_eq_none (by rw[A4] at hx ⊢;exact hx)
  dsimp only
  refine wg e1 ?_
  dsimp only
  refine A1 (O6 hI rfl (by simp) ?_)
  have hI1:∃vs,(s.heap.update I (u8 (·.setIfInBounds 0 (rawInt 0)))).get? I=some {cls:= .type "set_iterator",data:= .fields vs}∧2<vs.size:=by
   refine wg (F4 _ hI rfl) ?_;exact ⟨_,rfl,by simp⟩
  obtain ⟨vs,hI1,hvs⟩:=hI1
  refine A1 (O6 hI1 rfl hvs ?_)
  refine J8 (fin _ _ (fun b o hb e=>?_) rfl) (fun zz zz h=>h.elim) last
  exact BG (C9 ..) (ub b o hb e) hb
end
section
variable {prog:Program} {w:World} {A:Around} {E:Value→Shared→Prop} {s:Shared}
theorem Ed.keep {h h':Heap} {I S D:Addr} {es:Array (Int×Value)} {ep:Nat} {t:SetTable} {seq k} {us n} (x:Ed w h I S es ep t seq k) (hD:h.get? D=some (BL us n)) (hs:K5 D h h'):Ed w h' I S es ep t seq k:=by
 refine BD x.ex fun f h1 h2=>?_
 have hne:∀{b o},h.get? b=some o→o.cls≠.type "list"→b≠D:=fun e hc q=>by
  subst q;rw[hD] at e;cases e;exact hc rfl
 refine ⟨f,BG hs h1 (hne h1 (by simp)),?_⟩
 rcases h2 with h2 | h2 | ⟨T,ps,m,a1,a2,a3,a4,a5⟩
 ·exact .inl h2
 ·exact .inr (.inl h2)
 ·exact .inr (.inr ⟨T,ps,m,a1,a2,a3,BG hs a4 (hne a4 (by simp)),a5⟩)
theorem setColLoop (hh:A.handled=none) {S D I:Addr} {es:Array (Int×Value)} {ep:Nat} {t:SetTable} {seq:List Value} {res:Value} (hSD:S≠D) (hSI:S≠I) (hDI:D≠I) (hz:es.size≤4096) (ht:TOk t es.size) (hl:t.led= !w.params.followText "set-order") (hp:seq.length=es.size):
  ∀(m i:Nat) (s:Shared) (c:Nat),es.size - i=m→i≤es.size→s.heap.get? S=some (Bk es ep t)→Ed w s.heap I S es ep t seq i→s.heap.get? D=some (BL (seq.take i).toArray c)→∀(R:Result→Shared→Prop),
   (∀h' c,h'.get? D=some (BL seq.toArray c)→(∀b o,b≠D→b≠I→s.heap.get? b=some o→h'.get? b=some o)→R (.ok (.ret res)) {s with heap:=h'})→
   codeAny (model prog w) A (.builtin "list.extend.loop" ⟨[.ref D,.ref I,res],[]⟩) R s:=by
 intro m
 induction m with
 | zero=>
  intro i s c hm hi ho hit hD R hR
  have hin:es.size≤i:=s7 hm
  have hin:seq.length≤i:=A3 (B3 hp) hin
  refine O7 i6 ?_
  refine wg (M3 P8 _) ?_
  show wpAny _ A.in1 (pyNext (.ref I) >>=_) _ _ s
  refine A1 (IA (by exact hh) hSI ho ht hl hit hin hp fun h' he=>A5 (hR h' c ?_ fun b o zz hb e=>he b o hb e))
  have:=he D _ hDI hD
  rwa [Q9 hin] at this
 | succ m ih=>
  intro i s c hm hi ho hit hD R hR
  have lt:i<es.size:=Nat.lt_of_sub_eq_succ hm
  have ltv:i<seq.length:=hp.symm▸lt
  have hx:seq[i]?=some seq[i]:=B4 ltv
  refine O7 i6 ?_
  refine wg (M3 P8 _) ?_
  show wpAny _ A.in1 (pyNext (.ref I) >>=_) _ _ s
  refine A1 (next_set hSI ho ht hl hit hx fun h' hit' hs=>?_)
  have hD':h'.get? D=some (BL (seq.take i).toArray c):=BG hs hD hDI
  have ho':h'.get? S=some (Bk es ep t):=BG hs ho hSI
  refine A1 ?_
  have hs2:K5 D h' (h'.update D (G8 (·.push seq[i]))):=C9 ..
  have zi:i≤16777216:=A3 (D9 lt) (A3 hz (by decide))
  have hlen:(seq.take i).length=i:=List.length_take_of_le (D9 ltv)
  have e1:(seq.take (i+1)).toArray=(seq.take i).toArray.push seq[i]:=by exact wg (Y9 ltv) (wg (List.push_toArray ..) rfl)
  obtain ⟨c3,hD2⟩:∃c3,(h'.update D (G8 (·.push seq[i]))).get? D=some (BL (seq.take (i+1)).toArray c3):=⟨_,by refine wg e1 ?_;exact j6 hD' (·.push seq[i])⟩
  refine V5 hD' rfl (A5 ⟨W0 P8 _,ih (i+1) _ c3 (congrArg Nat.pred hm) lt (BG hs2 ho' hSD) (hit'.keep hD' hs2) hD2 R fun h2 c2 g1 g2=>?_⟩) (by refine wg H5 (wg hlen (wg M0 ?_));exact zi) (by refine wg (V4 ..) (wg H5 (wg hlen (wg M0 ?_)));exact B1 zi)
  exact hR h2 c2 g1 fun b o hb hb' e=>g2 b o hb hb' (BG hs2 (BG hs e hb') hb)
theorem Gp:splitId "set.__len__"=some ("set","__len__"):=by decide+kernel
theorem hint_set {S:Addr} {es:Array (Int×Value)} {ep:Nat} {t:SetTable} (ho:s.heap.get? S=some (Bk es ep t)) {Q:Bool→Shared→Prop} (h:Q false s):wpAny (model prog w) A (Builtin.List.listLengthHint (.ref S)) Q E s:=by
 have hT:s.TypeIs (.ref S) "set":=⟨_,ho,rfl⟩
 refine A1 (V2 hT F.slot_set_len.lookup ?_)
 dsimp only
 refine wg Gp ?_
 dsimp only
 refine A1 (W3 hT sub_set_self ?_)
 refine wg (if_neg (show ¬(!true)=true from D3)) ?_
 refine wg (if_pos (by decide+kernel)) ?_
 exact A1 (i1 hT (A5 h))
theorem collect_set (hh:A.handled=none) {S:Addr} {es:Array (Int×Value)} {ep:Nat} {t:SetTable} (ho:s.heap.get? S=some (Bk es ep t)) (ht:TOk t es.size) (hl:t.led= !w.params.followText "set-order") (hz:es.size<100) {Q:List Value→Shared→Prop}
  (hQ:∀h' d seq,seq.Perm (es.toList.map (·.2))→(∀b o,s.heap.get? b=some o→h'.get? b=some o)→s.heap.objs.size≤h'.objs.size→Q seq {s with heap:=h',drawn:=d}):wpAny (model prog w) A (collect (.ref S)) Q E s:=by
 have hSD:S≠s.heap.objs.size:=E4 (G1 ho)
 refine wpAny_size (A1 (wpAny_runValue (O7 F.entry_proto_collect ?_)))
 refine wg (M3 F.plain_proto_collect _) ?_
 show wpAny _ A.in1 (newList [] >>=fun l=>again (.builtin "list.__iadd__" ⟨[l,.ref S],[]⟩)) _ _ s
 refine A1 (J0 ?_)
 refine A5 ⟨W0 F.plain_list_iadd _,O7 F.entry_list_iadd ?_⟩
 refine wg (M3 F.plain_list_iadd _) ?_
 have hS₁:(s.heap.push {cls:= .type "list",data:= .seq ([]:List Value).toArray}).get? s.heap.objs.size=some (BL #[] 0):=B0 _ rfl
 have ho1:=BC (o:={cls:= .type "list",data:= .seq ([]:List Value).toArray}) _ _ ho
 have h1:j3 (.ref s.heap.objs.size) (.ref S)=false:=by simp[j3,N6 hSD]
 have hT:∀{s':Shared},s'.heap.get? S=some (Bk es ep t)→s'.TypeIs (.ref S) "set":=fun h=>⟨_,h,rfl⟩
 show wpAny _ A.in1 (AP (.ref s.heap.objs.size) (.ref S) (.ref s.heap.objs.size)) _ _ _
 refine A1 (i1 (hT ho1) ?_)
 have h2:(Ae "set"==Ae "list")=false:=by decide
 have h3:(Ae "set"==Ae "tuple")=false:=by decide
 refine wg h1 (wg h2 (wg h3 (wg (if_neg (show ¬(false || false || false)=true from D3)) ?_)))
 refine A1 (iter_set ho1 ht hz hl fun I hI dI seq hSI' hIs hkI hitI hperm=>?_)
 have hlen:seq.length=es.size:=by refine wg hperm.length_eq ?_;simp
 refine A1 (D4 ?_)
 have ho2:=hkI _ _ ho1
 refine hint_set ho2 ?_
 refine wg (if_pos (by decide+kernel)) ?_
 refine A1 (Q6 ?_)
 refine A1 ?_
 have hS₁':=hkI _ _ hS₁
 refine A1 (V5 hS₁' rfl ?_)
 obtain ⟨c1,hS₂⟩:∃c,(hI.update s.heap.objs.size (G8 (·.push I5))).get? s.heap.objs.size=some (BL #[.none] c):=⟨_,j6 hS₁' (·.push .none)⟩
 refine V5 hS₂ rfl ?_
 obtain ⟨c2,hS₃⟩:∃c,((hI.update s.heap.objs.size (G8 (·.push I5))).update s.heap.objs.size (G8 (·.pop))).get? s.heap.objs.size=some (BL #[] c):=⟨_,j6 hS₂ (·.pop)⟩
 have sb1:K5 s.heap.objs.size hI (hI.update s.heap.objs.size (G8 (·.push I5))):=C9 ..
 have sb2:K5 s.heap.objs.size (hI.update s.heap.objs.size (G8 (·.push I5))) ((hI.update s.heap.objs.size (G8 (·.push I5))).update s.heap.objs.size (G8 (·.pop))):=C9 ..
 have hit3:=(hitI.keep hS₁' sb1).keep hS₂ sb2
 have hDI:s.heap.objs.size≠I:=by rw[H8] at hIs;exact E4 (A9 (G7 _) hIs)
 have hSI:S≠I:=E4 hSI'
 have back:∀b o,s.heap.get? b=some o→b≠s.heap.objs.size∧b≠I∧((hI.update s.heap.objs.size (G8 (·.push I5))).update s.heap.objs.size (G8 (·.pop))).get? b=some o:=fun b o e=>by
  have hb:=G1 e
  have hb1:b≠s.heap.objs.size:=E4 hb
  have hIs':s.heap.objs.size≤I:=by rw[H8] at hIs;exact A3 (O9 _) hIs
  exact ⟨hb1,E4 (A9 hb hIs'),BG sb2 (BG sb1 (hkI _ _ (BC _ _ e)) hb1) hb1⟩
 have ho4:=(back _ _ ho).2.2
 generalize ((hI.update s.heap.objs.size (G8 (·.push I5))).update s.heap.objs.size (G8 (·.pop)))=H at hS₃ hit3 back ho4 ⊢
 have loop:=fun R hR=>setColLoop (prog:=prog) (w:=w) (A:=A) (res:= .ref s.heap.objs.size) (by exact hh) hSD hSI hDI (A3 (D9 hz) (by decide)) ht hl hlen _ 0 {s with heap:=H,drawn:=dI} c2 rfl (E2 _) ho4 hit3 (by refine wg List.take_zero ?_;exact hS₃) R hR
 refine A5 ⟨W0 P8 _,loop _ fun h' c g1 g2=>?_⟩
 exact A1 (wpAny_load g1 (A5 fun sz=>hQ h' dI seq hperm (fun b o e=>g2 b o (back b o e).1 (back b o e).2.1 (back b o e).2.2) sz))
end
section
variable {g:Gl} {fd:Fd} {A:Around} {s:Shared} {ρ:Rho} {hp:Hp} {K:KV}
theorem sorted_set {n m:Nat} {l:List V} {L:Addr} {us:Array Value} {Q:Value→Shared→Prop} {E:Value→Shared→Prop} (hA:Rm A n) (S:RS g ρ hp s) (ho:IsL s.heap ρ l L us m) (q:(intL l (fun m=>m.length<60)∨(l.length≤2∧(∀v∈l,V.key 8 v=true∧Hi v)∧∀x∈l,∀y∈l,ltV x y≠none))∧
 ∀l':List V,l'.Nodup→(∀v,v∈l'↔v∈l)→Asc l'→K (.lst l') hp) (k:Fin g ρ s.heap K Q):wpAny g.m A (call (.type "set") [.ref L]) (fun u s=>wpAny g.m A (call (.builtin "sorted") [u]) Q E s) E s:=by
 refine an2 q fun q1 q2=>?_;clear q
 have hu:=hA.un
 obtain ⟨mode,hok,hz,hz2⟩:∃mode,(∀v∈l,okM mode v)∧l.length<60∧(mode=false→l.length≤2):=by
  rcases q1 with ⟨m,rfl,h⟩ | ⟨h1,h2,_⟩
  ·exact ⟨true,fun v hv=>by refine BD (B5.mp hv) fun i zz e=>?_;exact ⟨i,e.symm⟩,by refine wg (A4 ..) ?_;exact h,nofun⟩
  ·exact ⟨false,fun v hv=>⟨(h2 v hv).1,by refine ex2 ((h2 v hv).2) fun i r e=>?_;exact ⟨_,e⟩⟩,by exact B1 (up h1 rfl),fun zz=>h1⟩
 refine wpAny_size (call_set_V (mode:=mode) (un hu rfl) hok (up hz rfl) hz2 hA.1 ho.o ho.r fun h2 tk hS hk sz=>?_)
 refine ex3 hS fun es ep t hh=>?_;clear hS;refine ex1 hh fun l2 Z=>?_;clear hh
 refine an2 (S.1.same hk sz) fun S2 X2=>?_
 have zl:=Z.z
 have hc:Col g A.in1 (.ref s.heap.objs.size) hp ρ {s with heap:=h2,toks:=tk} l2:=fun {Q E} kk=>
  collect_set (by exact hA.1) Z.o Z.ok Z.led (C2 (B3 (Eq.symm Z.se.len)) (upl (C2 zl hz) rfl)) fun h9 d seq hp9 hk9 sz9=>by
   refine an2 (S2.same hk9 sz9) fun S9 X9=>?_
   refine BD (Z.se.vals.perm hp9) fun l9 p1 p2=>?_
   have D:Bu h2 ⟨ρ.l,[s.heap.objs.size+1,s.heap.objs.size]++ρ.p⟩ h2 ρ:=⟨fun n e=>⟨⟨n.1,fun m=>n.2 (B8 _ m)⟩,e⟩,id⟩
   exact kk (s':={s with heap:=h9,toks:=tk,drawn:=d}) ⟨S9,S.2⟩ X9 p1 ((p2.keep D).keep X9.k0)
 rcases q1 with ⟨m1,rfl,h⟩ | ⟨h1,h2,h3⟩
 ·obtain ⟨m2,rfl⟩:∃m2:List Int,l2=m2.map .int:=by
   have:∀v∈l2,∃i,v=V.int i:=fun v hv=>by refine BD (B5.mp ((Z.mem v).mp hv)) fun i zz e=>?_;exact ⟨i,e.symm⟩
   clear hc Z zl
   induction l2 with
   | nil=>exact ⟨[],rfl⟩
   | cons v l ih=>
    refine ex1 (ih fun v hv=>this v (.tail _ hv)) fun m' hh1=>?_;obtain rfl:=hh1
    refine ex1 (this v (.head _)) fun i hh1=>?_;obtain rfl:=hh1
    exact ⟨i::m',rfl⟩
  refine Ft hc (by rw[A4] at zl;exact C2 zl hz) (k.up X2) fun m3 p w=>q2 _ ((p.map _).nodup_iff.mpr Z.nd) (fun v=>(p.map V.int).mem_iff.trans (Z.mem v)) ?_
  have nd:=(p.map V.int).nodup_iff.mpr Z.nd
  exact R4.mpr ((w.and (R4.mp nd)).imp fun h=>congrArg some (decide_eq_true (AC.mpr ⟨h.1,fun e=>h.2 (congrArg V.int e)⟩)))
 ·refine Fu hA hc ⟨fun v hv=>V.ok_up (b:=false) (c:=true) (fun e=>nomatch e) 8 v (h2 v ((Z.mem v).mp hv)).1 8 (B2 _),.inr fun v hv=>(h2 v ((Z.mem v).mp hv)).2,fun x hx y hy=>h3 x ((Z.mem x).mp hx) y ((Z.mem y).mp hy),by exact C2 zl hz,Z.nd⟩ (k.up X2) fun l3 p w=>q2 l3 (p.nodup_iff.mpr Z.nd) (fun v=>p.mem_iff.trans (Z.mem v)) w
theorem n_sset {n:Nat} {e:Expr} {a:XE V} {x y:Str} {p pos ip ipos:Pos} (hA:Rm A n) (h:NV g fd A e a) (B:BOk g fd x (.builtin "sorted")) (B':BOk g fd y (.type "set")) (he:CA (.Name x p) [.Call (.Name y ip) [e] [] ipos] pos fd.env) (he':CA (.Name y ip) [e] ipos fd.env)
  (hs:starEach [e] fd.env=(false,eval e fd.env)::starEach [] fd.env):NV g fd A (.Call (.Name x p) [.Call (.Name y ip) [e] [] ipos] [] pos) (xun Dd a):=by
 intro s ρ lc hp K S F q Q E k
 refine wg he ?_
 refine A1 (B.name S F (z9 (by rfl) (keepM B.hf) (CK (by rfl) (i3 ?_ rfl))))
 refine wg he' ?_
 refine A1 (B'.name S F (z9 (by refine wg hs ?_;rfl) (keepM B'.hf) (CK (by refine wg hs ?_;rfl) (i3 (h S F q fun q S1 X1 r1=>n7 ⟨trivial,?_⟩) hs))))
 exact aE (C:=fun u=>wpAny _ _ (call _ [u]) _ _ _) S1.1 q r1 fun l a us n q L=>J8 (sorted_set hA S1 L q (k.up X1)) (fun u s h=>n7 ⟨trivial,h⟩) fun zz zz e=>e
end
noncomputable def cat:Expr→Nat
 | .Starred ..=>9
 | .Slice ..=>8
 | .Set ..=>9
 | .SetComp ..=>9
 | .DictComp ..=>9
 | .ListComp ..=>3
 | .Tuple ..=>2
 | .Name ..=>0
 | .Attribute ..=>0
 | .Subscript ..=>0
 | .Call (.Attribute ..) _ _ _=>0
 | _=>1
noncomputable def isSl (e:Expr):Bool:=H7 (cat e) 8
section
variable {e o:Expr} {env:Env} {es:List Expr}
theorem IB (h:cat e≤3):starEach (e::es) env=(false,eval e env)::starEach es env:=by
 cases e <;> first | rfl | exact absurd (show 9≤3 from h) (by decide)
theorem IC (h:cat e≤3) {x:Value}:foldedSetIterable e env x=pure x:=by
 cases e <;> first | rfl | exact absurd (show 9≤3 from h) (by decide)
theorem l_swap (h:cat e≤2) {t:Option Expr} {n:Nat}:swapsWith e t n env=pure false:=by
 cases e <;> first | rfl | exact absurd (show 9≤2 from h) (by decide) | exact absurd (show 3≤2 from h) (by decide)
theorem l_stores {T:Expr} (h:cat T=0∨cat e≠2):swappedStores [T] e env=pure none:=by
 cases h with
 | inl h=>cases T <;> first | rfl | cases h
 | inr h=>cases T <;> first | rfl | (cases e <;> first | rfl | exact absurd rfl h)
theorem l_sub (h:isSl e=false) {o i:Value}:subscripted e false o i=operate [o,i] (getItem o i):=by
 cases e <;> first | rfl | cases h
theorem l_ab (h:cat o=0) {x:Str}:attributeBase o x env (eval o env)=eval o env:=by
 cases o with
 | Call f a k p=>cases f <;> first | rfl | cases h
 | _=>first | rfl | cases h
theorem l_meth {x:Str} {apos pos:Pos} (h:cat o=0) (hl:(apos.endLine==pos.line)=true) (hn:es.length<30) (hs:∀pos,(backTo pos (starEach es env)).any (·.1)=false):EM o x apos es pos env:=by
 refine ⟨do return (←importBound o env).getD true,?_⟩
 have hf:methodCallForm (es.length+0) (backTo pos (starEach es env)) []=true:=by
  have:(backTo pos (starEach es env)).all (!·.1)=true:=by
   have:=hs pos
   rw[List.any_eq_false] at this
   exact E0.mpr fun x hx=>by refine wg (g7 ..) ?_;exact Bool.eq_false_iff.mpr (this x hx)
  unfold methodCallForm
  refine wg this ?_
  exact decide_eq_true hn
 have hp:methodCallPos true o env apos pos=pure pos:=by
  unfold methodCallPos
  refine wg hl ?_;rfl
 have hc:∀ov,methodCall o x apos pos env ov (es.length+0) (backTo pos (starEach es env)) []=(do
   let (f,first) ←holding [ov] (getMethod ov x (do return (←importBound o env).getD true))
   callWith pos f first (backTo pos (starEach es env)) []):=fun ov=>by
  unfold methodCall calleeOf
  refine wg hf (wg hp ?_);rfl
 show (do
  let ov ←attributeBase o x env (eval o env)
  standAt apos.atName
  methodCall o x apos pos env ov (es.length+0) (backTo pos (starEach es env)) [])=_
 refine wg (l_ab h) ?_
 exact congrArg (eval o env >>=·) (funext fun ov=>congrArg (standAt apos.atName >>=·) (funext fun zz=>hc ov))
theorem l_each (h:cat e≤3):(assignEach [e] env).map (·.2)=[assign e env]:=by
 cases e <;> first | rfl | exact absurd (show 9≤3 from h) (by decide)
end
structure Cx where
 ns:List Str
 sc:List (Str×NameKind)
 ow:List Str
 me:Addr
structure FK (c:Cx) (fd:Fd):Prop where
 n:fd.names=c.ns
 k:fd.env.scope.kind= .function
 s:fd.env.scope.names=c.sc
 o:∀x∈c.ow,∃a,fd.env.cells.lookup x=some a∧a∈fd.own
 l:∀x,c.sc.lookup x=some .cell→∃a,fd.env.cells.lookup x=some a
noncomputable def asgB (c:Cx) (x:Str):Bool:=decide (c.sc.lookup x=some .local) || (decide (c.sc.lookup x=some .cell)&&decide (x∈c.ow))
section
variable {c:Cx} {fd:Fd} {x:Str}
theorem FK.kind (h:FK c fd):fd.env.kindOf x=c.sc.lookup x:=congrArg (List.lookup x) h.s
theorem FK.name (h:FK c fd) (hx:c.ns[c.ns.idxOf x]?=some x):fd.names[c.ns.idxOf x]?=some x:=h.n▸hx
theorem FK.asg (h:FK c fd) (hx:asgB c x=true):CV fd x:=by
 rcases R8.mp hx with h1 | h1
 ·exact .inl (h.kind.trans (of_decide_eq_true h1))
 ·have h1:=E3.mp h1
  refine BD (h.o x (of_decide_eq_true h1.2)) fun a e1 e2=>?_
  exact .inr ⟨a,h.kind.trans (of_decide_eq_true h1.1),e1,e2⟩
theorem FK.inter (h:FK c fd):interactive fd.env=false:=by unfold interactive;refine wg h.k ?_;rfl
end
noncomputable def HT (sc nm:List (Str×NameKind)):List (Str×NameKind):=nm.map fun (n,k)=>if (k== .free&&sc.lookup n==some .cell) then (n,.cell) else (n,k)
noncomputable def Gq:List (Str×NameKind)→List Str
 | []=>[]
 | (x,k)::r=>if (k= .local∨k= .cell)∧x≠".0" then x::Gq r else Gq r
noncomputable def CD:List (Str×NameKind)→List Str
 | []=>[]
 | (x,k)::r=>if k= .free then x::CD r else CD r
noncomputable def Cq:List (Str×NameKind)→List Str
 | []=>[]
 | (x,k)::r=>if k= .cell then x::Cq r else Cq r
noncomputable def cxC (c:Cx) (nm:List (Str×NameKind)):Cx:=⟨Gq nm++CD nm,HT c.sc nm,Cq nm,c.me⟩
noncomputable def Gr (cs:List (Str×Addr)):List Str→List (Str×Addr)→List (Str×Addr)
 | [],acc=>acc
 | x::r,acc=>Gr cs r ((x,(cs.lookup x).getD 0)::acc)
noncomputable def HU:List Str→Option Str
 | []=>none
 | x::_=>some x
structure compB (c:Cx) (s:Scope):Prop where
 k:s.kind= .function
 nd:(Gq s.names++CD s.names).Nodup
 w:(Cq s.names).length≤1
 l:∀x∈s.names,x.2= .local→s.names.lookup x.1=some .local
 f:∀x∈CD s.names,c.sc.lookup x=some .cell∧c.ns[c.ns.idxOf x]?=some x∧(HT c.sc s.names).lookup x=some .cell∧x∉Cq s.names
 r:∀x∈HT c.sc s.names,x.2= .cell→x.1∈Cq s.names∨x.1∈CD s.names
noncomputable instance (c:Cx) (s:Scope):Decidable (compB c s):=decidable_of_iff (s.kind= .function∧(Gq s.names++CD s.names).Nodup∧(Cq s.names).length≤1∧(∀x∈s.names,x.2= .local→s.names.lookup x.1=some .local)∧
 (∀x∈CD s.names,c.sc.lookup x=some .cell∧c.ns[c.ns.idxOf x]?=some x∧(HT c.sc s.names).lookup x=some .cell∧x∉Cq s.names)∧∀x∈HT c.sc s.names,x.2= .cell→x.1∈Cq s.names∨x.1∈CD s.names)
 ⟨fun h=>⟨h.1,h.2.1,h.2.2.1,h.2.2.2.1,h.2.2.2.2.1,h.2.2.2.2.2⟩,fun h=>⟨h.1,h.2,h.3,h.4,h.5,h.6⟩⟩
theorem own0:∀{nm:List (Str×NameKind)},Cq nm=[]→(∀h,pushCells h nm=h)∧∀n acc,cellsFrom n nm acc=acc:=by
 intro nm
 induction nm with
 | nil=>exact fun zz=>⟨fun zz=>rfl,fun zz zz=>rfl⟩
 | cons p r ih=>
  obtain ⟨x,k⟩:=p
  intro h
  cases k with
  | cell=>cases h
  | _=>exact ih h
theorem own1 {y:Str}:∀{nm:List (Str×NameKind)},Cq nm=[y]→(∀h,pushCells h nm=h.push {cls:= .type "cell",data:= .cell none})∧∀n acc,cellsFrom n nm acc=(y,n)::acc:=by
 intro nm
 induction nm with
 | nil=>exact fun h=>nomatch h
 | cons p r ih=>
  obtain ⟨x,k⟩:=p
  intro h
  cases k with
  | cell=>
   have h:x::Cq r=[y]:=h
   have q:=own0 (W2 h).2
   cases (W2 h).1
   exact ⟨fun h=>q.1 _,fun n acc=>q.2 _ _⟩
  | _=>exact ih h
theorem ownK {nm:List (Str×NameKind)} (h:(Cq nm).length≤1):Ownc nm (HU (Cq nm)):=by
 match e:Cq nm,h with
 | [],_=>exact own0 e
 | [y],_=>exact own1 e
section
variable {cs:List (Str×Addr)} {x:Str}
theorem cl_look:∀{fr:List Str} {acc:List (Str×Addr)},(∀y∈fr,∃a,cs.lookup y=some a)→x∈fr∨acc.lookup x=cs.lookup x→(Gr cs fr acc).lookup x=cs.lookup x:=by
 intro fr
 induction fr with
 | nil=>exact fun zz h=>h.elim nofun id
 | cons y r ih=>
  intro acc H h
  refine ih (fun z hz=>H z (.tail _ hz)) ?_
  refine wg a0 ?_
  by_cases e:x=y
  ·subst e
   refine ex1 (H x (.head _)) fun a ha=>?_
   refine wg (beq_self_eq_true ..) (wg ha ?_);exact .inr rfl
  ·refine wg (beq_eq_false_iff_ne.mpr e) ?_
   exact h.elim (fun m=>(C4.mp m).elim (fun q=>absurd q e) .inl) .inr
theorem cl_sub:∀{fr:List Str} {acc:List (Str×Addr)},(∀y∈fr,∃a,cs.lookup y=some a)→(∀p∈acc,cs.lookup p.1=some p.2)→∀p∈Gr cs fr acc,cs.lookup p.1=some p.2:=by
 intro fr
 induction fr with
 | nil=>exact fun zz h=>h
 | cons y r ih=>
  intro acc H h
  refine ih (fun z hz=>H z (.tail _ hz)) fun p hp=>(C4.mp hp).elim (fun q=>?_) (h p)
  refine ex1 (H y (.head _)) fun a ha=>?_
  refine wg q (wg ha ?_);rfl
theorem cl_of {env:Env} (sc:Scope) (H:∀y∈CD sc.names,∃a,env.cells.lookup y=some a):closureFor sc env=pure (Gr env.cells (CD sc.names) []):=by
 unfold closureFor
 have:∀(nm:List (Str×NameKind)) (acc:List (Str×Addr)),(∀y∈CD nm,∃a,env.cells.lookup y=some a)→(forIn nm acc (fun x r=>match x with
   | (name,kind)=>if (kind==NameKind.free)=true then do let a ←cellOf env name;pure (j5 ((name,a)::r)) else pure (j5 r)):Sem _)=pure (Gr env.cells (CD nm) acc):=by
  intro nm
  induction nm with
  | nil=>exact fun acc zz=>rfl
  | cons p r ih=>
   obtain ⟨x,k⟩:=p
   intro acc H
   refine wg (Y4 ..) ?_
   cases k with
   | free=>
    refine ex1 (H x (.head _)) fun a ha=>?_
    show ((do let a ←cellOf env x;pure (j5 ((x,a)::acc))) >>=_)=pure (Gr env.cells (CD r) ((x,(env.cells.lookup x).getD 0)::acc))
    refine wh (ih _ fun y hy=>H y (.tail _ hy)) ?_
    unfold cellOf
    refine wg ha ?_;rfl
   | _=>exact ih _ H
 exact congrArg (· >>=pure) (this _ _ H)
end
section
variable {c:Cx} {fd:Fd} {sc:Scope} (h:FK c fd) (B:compB c sc)
include h B
theorem FK.fr:∀y∈CD sc.names,∃a,fd.env.cells.lookup y=some a:=fun y hy=>h.l y (B.f y hy).1
theorem oc_look {n:Nat} {x:Str} (hx:x∈CD sc.names):(FX (HU (Cq sc.names)) n (Gr fd.env.cells (CD sc.names) [])).lookup x=fd.env.cells.lookup x:=by
 have q:=cl_look (cs:=fd.env.cells) (x:=x) (acc:=[]) (h.fr B) (.inl hx)
 have hn:=(B.f x hx).2.2.2
 cases e:Cq sc.names with
 | nil=>exact q
 | cons y r=>
  show List.lookup x ((y,n)::_)=_
  rw[e] at hn
  refine wg a0 (wg (beq_eq_false_iff_ne.mpr fun (e:x=y)=>hn (e▸.head _)) ?_);exact q
theorem oc_own {n:Nat} {x:Str} (hx:x∈Cq sc.names):(FX (HU (Cq sc.names)) n (Gr fd.env.cells (CD sc.names) [])).lookup x=some n∧n∈oOwn (HU (Cq sc.names)) n:=by
 have w:=B.w
 match e:Cq sc.names,w with
 | [],_=>rw[e] at hx;cases hx
 | [y],_=>
  rw[e] at hx
  cases A8.mp hx
  exact ⟨List.lookup_cons_self,.head _⟩
theorem relab_eq:(relabel sc fd.env).names=HT c.sc sc.names:=by
 refine H4 fun p zz=>?_
 obtain ⟨x,k⟩:=p
 dsimp only
 refine wg h.kind (wg h.k ?_)
 cases k <;> rfl
theorem comp_ok:CompOk fd sc (Gr fd.env.cells (CD sc.names) []) (HU (Cq sc.names)) (Gq sc.names++CD sc.names) (Gq sc.names).length ((CD sc.names).map fun x=>c.ns.idxOf x):=by
 refine ⟨ownK B.w,B.k,B.nd,cl_of sc (h.fr B),cl_sub (h.fr B) nofun,B.l,fun j i hj=>?_⟩
 rw[G0] at hj
 refine BD (I9.mp hj) fun x hx hh2=>?_;obtain rfl:=hh2
 have m:=B9 hx
 have q:=B.f x m
 exact ⟨x,(R6 (C0 _ _)).trans (by refine wg (V0 ..) ?_;exact hx),h.name q.2.1,h.kind.trans q.1,relab_eq h B▸q.2.2.1,fun n=>oc_look h B m⟩
theorem DG {C:Addr}:FK (cxC c sc.names) (fdC fd sc (Gr fd.env.cells (CD sc.names) []) (HU (Cq sc.names)) (Gq sc.names++CD sc.names) C):=by
 refine ⟨rfl,B.k,relab_eq h B,fun x hx=>⟨_,(oc_own h B hx).1,.tail _ (oc_own h B hx).2⟩,fun x hx=>?_⟩
 rcases B.r _ (GU hx) rfl with m | m
 ·exact ⟨_,(oc_own h B m).1⟩
 ·refine ex1 (h.fr B x m) fun a ha=>?_
  exact ⟨a,(oc_look h B m).trans ha⟩
end
theorem n_isint {g:Gl} {fd:Fd} {A:Around} {e:Expr} {a:XE V} {x y:Str} {p pos ip:Pos} (h:NV g fd A e a) (B:BOk g fd x (.builtin "isinstance")) (B':BOk g fd y (.type "int")) (hs:∀es,starEach (e::es) fd.env=(false,eval e fd.env)::starEach es fd.env):NV g fd A (.Call (.Name x p) [e,.Name y ip] [] pos) (BK En [a]):=by
 intro s ρ lc hp K S F q Q E k
 show wpAny _ _ (do callWith pos (←eval (.Name x p) fd.env) [] (backTo pos (starEach [e,.Name y ip] fd.env)) (backToKw pos (keywordEach [] fd.env))) Q E s
 refine A1 (B.name S F (z9 (by refine wg (hs ..) ?_;rfl) (keepM B.hf) (CK (by refine wg (hs ..) ?_;rfl) (i3 (h S F q fun q S1 X1 r1=>i3 (B'.name S1 (F.ext S.1 X1) (n7 ⟨trivial,?_⟩)) rfl) (hs _)))))
 exact b_isint S1 (.cons r1 .nil) q (k.up X1)
noncomputable def fnA:List (Str×Addr):=[("is_op",79),("is_variable",86),("parts",91),("matched",98),("key_of",103),("is_covered",218),("named",223),("_law_next",489),("_law_added",496),("_law_lots",501),("_law_shapes",506),("_law_spelled",511),("_law_heads",518),("_law_rank",523),("_law_comes_under",530),("_law_due",535),("_law_told",540),("Bank",207),("HeapCommon",264),("Unions",346),("Heap",478)]
noncomputable def meA (C:Addr):List (Str×Addr):=cond (H7 C 207) [("size",124),("take",129),("require",136),("op",164),("kids",171)] (cond (H7 C 264) [("common",242),("limited",249),("shared",256),("spread",261)] (cond (H7 C 346) [("make",289),("size",296),("find",303),("merge",310),("members",317)] (cond (H7 C 478) [("size",371),("node",376),("add",381),("look_at",395),("find",402),("merge",416),("join",423),("settle",430),("members",451),("nodes_of",456)] ([]))))
noncomputable def flA (C:Addr):List Str:=cond (H7 C 207) ["nodes","numbers","weights","depths"] (cond (H7 C 264) ["heap","known","rows"] (cond (H7 C 346) ["above","lots","merged"] (cond (H7 C 478) ["bank","unions","edges","forest","known","above","waiting","backs"] ([]))))
noncomputable def bltN:List Str:=["len","int","str","tuple","sum","max","isinstance","list","range","enumerate","zip","sorted","set"]
noncomputable def ED (me:Addr):Expr→Addr
 | .Name x _=>if x="self" then me else if x="asked" then 264 else 478
 | .Attribute _ x _=>if x="bank" then 207 else if x="unions" then 346 else 478
 | _=>0
structure Ok (g:Gl) (m:Nat) (F:Addr→Fn) (sc:Addr) (ns:List Int):Prop where
 fn:∀x a,fnA.lookup x=some a→nsIn g.K mainGlobals x=some (some (.ref a))∧keepIn g.K (.ref a)=true∧NC g (.ref a) m (F a)
 bn:∀x∈bltN,nsIn g.K mainGlobals x=some none
 at_:∀C x,x∈flA C→getOk g.K C x∧setOk g.K C x
 fl:∀C,g.fl C=flA C
 me:∀C x a,(meA C).lookup x=some a→methOk g.K C x a∧x∉flA C∧NC g (.ref a) m (F a)
 mo:∃t,nsIn g.K mainGlobals "MOST_PATTERNS"=some (some (.int 2000 t))
 sc:∃sv:List Value,g.h₀.IsList sc sv.toArray∧IntsAre sv ns∧sv.length≤4096
section
variable {g:Gl} {A:Around} {m:Nat} {F:Addr→Fn} {sc:Addr} {ns:List Int} {c:Cx} {fd:Fd} {x:Str}
theorem Ok.blt {f:Value} (O:Ok g m F sc ns) (h:FK c fd) (hx:c.sc.lookup x=some .globalImplicit∧x∈bltN) (hv:bootBuiltins x=some f) (hf:keeperOf f=pure .machine) (hn:x≠"__name__"∧(x==("__debug__":Str))=false):BOk g fd x f:=⟨h.kind.trans hx.1,O.bn x hx.2,hv,hf,hn.1,hn.2⟩
structure Blt (x:Str) (f:Value):Prop where
 m:x∈bltN
 v:bootBuiltins x=some f
 f:keeperOf f=pure .machine
 n:x≠"__name__"∧(x==("__debug__":Str))=false
theorem Blt.ok {f:Value} (B:Blt x f) (O:Ok g m F sc ns) (h:FK c fd) (hx:c.sc.lookup x=some .globalImplicit):BOk g fd x f:=O.blt h ⟨hx,B.m⟩ B.v B.f B.n
theorem B_len:Blt "len" (.builtin "len"):=⟨by decide+kernel,rfl,rfl,by decide+kernel⟩
theorem B_int:Blt "int" (.type "int"):=⟨by decide+kernel,rfl,rfl,by decide+kernel⟩
theorem B_str:Blt "str" (.type "str"):=⟨by decide+kernel,rfl,rfl,by decide+kernel⟩
theorem B_tuple:Blt "tuple" (.type "tuple"):=⟨by decide+kernel,rfl,rfl,by decide+kernel⟩
theorem B_sum:Blt "sum" (.builtin "sum"):=⟨by decide+kernel,rfl,rfl,by decide+kernel⟩
theorem B_max:Blt "max" (.builtin "max"):=⟨by decide+kernel,rfl,rfl,by decide+kernel⟩
theorem B_isi:Blt "isinstance" (.builtin "isinstance"):=⟨by decide+kernel,rfl,rfl,by decide+kernel⟩
theorem B_list:Blt "list" (.type "list"):=⟨by decide+kernel,rfl,rfl,by decide+kernel⟩
theorem B_range:Blt "range" (.type "range"):=⟨by decide+kernel,rfl,rfl,by decide+kernel⟩
theorem B_enm:Blt "enumerate" (.type "enumerate"):=⟨by decide+kernel,rfl,rfl,by decide+kernel⟩
theorem B_zip:Blt "zip" (.type "zip"):=⟨by decide+kernel,rfl,rfl,by decide+kernel⟩
theorem Ez:Blt "sorted" (.builtin "sorted"):=⟨by decide+kernel,rfl,rfl,by decide+kernel⟩
theorem B_set:Blt "set" (.type "set"):=⟨by decide+kernel,rfl,rfl,by decide+kernel⟩
end
noncomputable def hints:List (Nat×Nat):=[(23012021,2),(28026040,2),(45021023,2),(47023025,2),(48022024,2),(55011031,1),(56019037,1),(61008026,1),(64035079,1),(129016041,1),(140011032,1),(146028052,1),(148012027,1),(149015030,1),(155011031,1),(156020022,2),(163012026,1),(164015029,1),(169021023,2),(170020022,2),(171022024,2),(175025041,2),(187021057,1),(196015046,1),(218021023,2),(219022024,2),(222023025,2),(236008021,1),(236024026,2),(238012025,1),(266028044,1),(267008024,1),(267027043,1),(267027066,1),(297009018,1),(298004013,1),(299012022,1),(299039049,1),(306058080,1),(309024052,1),(311030032,2),(318030042,1),(318045047,2),(321012020,2),(322015022,1),(323021028,1),(335012044,2),(357012025,1),(373097099,2),(378019036,2),(378038040,2),(382015046,2)]
noncomputable def hint (p:Pos):Nat:=(hints.lookup (p.line*1000000+p.col*1000+p.endCol)).getD 0
section
variable (g:Gl) (A:Around)
noncomputable def YV (c:Cx) (e:Expr):Type:={x:XE V//∀fd,FK c fd→NV g fd A e x}
@[reducible] noncomputable def TV (c:Cx) (e:Expr):=Option (YV g A c e)
noncomputable def YB (c:Cx) (e:Expr):Type:={x:XE Bool//∀fd,FK c fd→NB g fd A e x}
@[reducible] noncomputable def TB (c:Cx) (e:Expr):=Option (YB g A c e)
noncomputable def YL (c:Cx) (e:Expr):Type:={x:XE (List V)//∀fd,FK c fd→NL g fd A e x}
@[reducible] noncomputable def TL (c:Cx) (e:Expr):=Option (YL g A c e)
noncomputable def YI (c:Cx) (T e:Expr):Type:={x:XI//∀fd,FK c fd→NI g fd A T e x}
@[reducible] noncomputable def TI (c:Cx) (T e:Expr):=Option (YI g A c T e)
noncomputable def YA (c:Cx) (e:Expr):Type:={x:XT//∀fd,FK c fd→NA g fd A (assign e fd.env) x}
@[reducible] noncomputable def TA (c:Cx) (e:Expr):=Option (YA g A c e)
noncomputable def YS (c:Cx) (e:Stmt):Type:={x:XS//∀fd,FK c fd→NS g fd A (exec e fd.env) x}
@[reducible] noncomputable def TS (c:Cx) (e:Stmt):=Option (YS g A c e)
noncomputable def YSs (c:Cx) (e:List Stmt):Type:={x:XS//∀fd,FK c fd→NS g fd A (execs e fd.env) x}
@[reducible] noncomputable def TSs (c:Cx) (e:List Stmt):=Option (YSs g A c e)
noncomputable def YAs (c:Cx) (e:List Expr):Type:={x:List (XE V)//∀fd,FK c fd→NAr g fd A e x}
@[reducible] noncomputable def TAs (c:Cx) (e:List Expr):=Option (YAs g A c e)
noncomputable def YJs (c:Cx) (e:List Expr):Type:={x:List (XE V)//∀fd,FK c fd→NJ g fd A e x}
@[reducible] noncomputable def TJs (c:Cx) (e:List Expr):=Option (YJs g A c e)
noncomputable def YPs (c:Cx) (pos:Pos) (ks:List (Option Expr)) (vs:List Expr):Type:={x:List (XE V×XE V)//∀fd,FK c fd→NPs g fd A pos ks vs x}
@[reducible] noncomputable def TPs (c:Cx) (pos:Pos) (ks:List (Option Expr)) (vs:List Expr):=Option (YPs g A c pos ks vs)
noncomputable def YTs (c:Cx) (e:List Expr):Type:={x:List XT//∀fd,FK c fd→(NAs g fd A ((assignEach e fd.env).map (·.2)) x∧(assignEach e fd.env).length=x.length∧(assignEach e fd.env).findIdx? (·.1)=none)}
@[reducible] noncomputable def TTs (c:Cx) (e:List Expr):=Option (YTs g A c e)
noncomputable def YF (c:Cx) (e:List Expr):Type:={x:XM→XM//∀fd,FK c fd→NIf g fd A e x}
@[reducible] noncomputable def TF (c:Cx) (e:List Expr):=Option (YF g A c e)
section
variable {g:Gl} {A:Around} {c:Cx}
noncomputable def YV.v {e:Expr} (a:YV g A c e):XE V:=a.1
theorem YV.h {e:Expr} (a:YV g A c e):∀fd,FK c fd→NV g fd A e a.v:=a.2
noncomputable def YV.k {e:Expr} (x:XE V) (h:∀fd,FK c fd→NV g fd A e x):YV g A c e:=⟨x,h⟩
noncomputable def YB.v {e:Expr} (a:YB g A c e):XE Bool:=a.1
theorem YB.h {e:Expr} (a:YB g A c e):∀fd,FK c fd→NB g fd A e a.v:=a.2
noncomputable def YB.k {e:Expr} (x:XE Bool) (h:∀fd,FK c fd→NB g fd A e x):YB g A c e:=⟨x,h⟩
noncomputable def YL.v {e:Expr} (a:YL g A c e):XE (List V):=a.1
theorem YL.h {e:Expr} (a:YL g A c e):∀fd,FK c fd→NL g fd A e a.v:=a.2
noncomputable def YL.k {e:Expr} (x:XE (List V)) (h:∀fd,FK c fd→NL g fd A e x):YL g A c e:=⟨x,h⟩
noncomputable def YI.v {T e:Expr} (a:YI g A c T e):XI:=a.1
theorem YI.h {T e:Expr} (a:YI g A c T e):∀fd,FK c fd→NI g fd A T e a.v:=a.2
noncomputable def YI.k {T e:Expr} (x:XI) (h:∀fd,FK c fd→NI g fd A T e x):YI g A c T e:=⟨x,h⟩
noncomputable def YA.v {e:Expr} (a:YA g A c e):XT:=a.1
theorem YA.h {e:Expr} (a:YA g A c e):∀fd,FK c fd→NA g fd A (assign e fd.env) a.v:=a.2
noncomputable def YA.k {e:Expr} (x:XT) (h:∀fd,FK c fd→NA g fd A (assign e fd.env) x):YA g A c e:=⟨x,h⟩
noncomputable def YS.v {e:Stmt} (a:YS g A c e):XS:=a.1
theorem YS.h {e:Stmt} (a:YS g A c e):∀fd,FK c fd→NS g fd A (exec e fd.env) a.v:=a.2
noncomputable def YS.k {e:Stmt} (x:XS) (h:∀fd,FK c fd→NS g fd A (exec e fd.env) x):YS g A c e:=⟨x,h⟩
noncomputable def YSs.v {e:List Stmt} (a:YSs g A c e):XS:=a.1
theorem YSs.h {e:List Stmt} (a:YSs g A c e):∀fd,FK c fd→NS g fd A (execs e fd.env) a.v:=a.2
noncomputable def YSs.k {e:List Stmt} (x:XS) (h:∀fd,FK c fd→NS g fd A (execs e fd.env) x):YSs g A c e:=⟨x,h⟩
noncomputable def YAs.v {e:List Expr} (a:YAs g A c e):List (XE V):=a.1
theorem YAs.h {e:List Expr} (a:YAs g A c e):∀fd,FK c fd→NAr g fd A e a.v:=a.2
noncomputable def YAs.k {e:List Expr} (x:List (XE V)) (h:∀fd,FK c fd→NAr g fd A e x):YAs g A c e:=⟨x,h⟩
noncomputable def YJs.v {e:List Expr} (a:YJs g A c e):List (XE V):=a.1
theorem YJs.h {e:List Expr} (a:YJs g A c e):∀fd,FK c fd→NJ g fd A e a.v:=a.2
noncomputable def YJs.k {e:List Expr} (x:List (XE V)) (h:∀fd,FK c fd→NJ g fd A e x):YJs g A c e:=⟨x,h⟩
noncomputable def YPs.v {pos:Pos} {ks:List (Option Expr)} {vs:List Expr} (a:YPs g A c pos ks vs):List (XE V×XE V):=a.1
theorem YPs.h {pos:Pos} {ks:List (Option Expr)} {vs:List Expr} (a:YPs g A c pos ks vs):∀fd,FK c fd→NPs g fd A pos ks vs a.v:=a.2
noncomputable def YPs.k {pos:Pos} {ks:List (Option Expr)} {vs:List Expr} (x:List (XE V×XE V)) (h:∀fd,FK c fd→NPs g fd A pos ks vs x):YPs g A c pos ks vs:=⟨x,h⟩
noncomputable def YTs.v {e:List Expr} (a:YTs g A c e):List XT:=a.1
theorem YTs.h {e:List Expr} (a:YTs g A c e):∀fd,FK c fd→(NAs g fd A ((assignEach e fd.env).map (·.2)) a.v∧(assignEach e fd.env).length=a.v.length∧(assignEach e fd.env).findIdx? (·.1)=none):=a.2
noncomputable def YTs.k {e:List Expr} (x:List XT) (h:∀fd,FK c fd→(NAs g fd A ((assignEach e fd.env).map (·.2)) x∧(assignEach e fd.env).length=x.length∧(assignEach e fd.env).findIdx? (·.1)=none)):YTs g A c e:=⟨x,h⟩
noncomputable def YF.v {e:List Expr} (a:YF g A c e):XM→XM:=a.1
theorem YF.h {e:List Expr} (a:YF g A c e):∀fd,FK c fd→NIf g fd A e a.v:=a.2
noncomputable def YF.k {e:List Expr} (x:XM→XM) (h:∀fd,FK c fd→NIf g fd A e x):YF g A c e:=⟨x,h⟩
end
structure Cm where
 v:∀c e,TV g A c e
 b:∀c e,TB g A c e
 l:∀c e,TL g A c e
 i:∀c T e,TI g A c T e
 a:∀c e,TA g A c e
 s:∀c b,TSs g A c b
end
section
variable {g:Gl} {A:Around} (R:Cm g A)
noncomputable def FA (c:Cx):(es:List Expr)→TAs g A c es
 | []=>some (.k [] (fun zz zz=>ar_nil))
 | e::es=>(R.v c e).bind fun a=>(FA c es).bind fun t=>if h:cat e≤3 then some (.k (a.v::t.v) (fun fd k=>ar_cons (a.h fd k) (t.h fd k) (IB h))) else none
noncomputable def cJs (c:Cx):(es:List Expr)→TJs g A c es
 | []=>some (.k [] (fun zz zz=>.nil))
 | e::es=>(R.v c e).bind fun a=>(cJs c es).bind fun t=>some (.k (a.v::t.v) (fun fd k=>.cons (a.h fd k) (t.h fd k)))
noncomputable def cPs (c:Cx) (pos:Pos):(ks:List (Option Expr))→(vs:List Expr)→TPs g A c pos ks vs
 | [],[]=>some (.k [] (fun zz zz=>ps_nil))
 | some k::ks,v::vs=>(R.v c k).bind fun a=>(R.v c v).bind fun b=>(cPs c pos ks vs).bind fun t=>some (.k ((a.v,b.v)::t.v) (fun fd h=>ps_cons (a.h fd h) (b.h fd h) (t.h fd h)))
 | _,_=>none
noncomputable def cTs (c:Cx):(es:List Expr)→TTs g A c es
 | []=>some (.k [] (fun zz zz=>⟨as_nil,rfl,rfl⟩))
 | .Name x p::es=>(R.a c (.Name x p)).bind fun a=>(cTs c es).bind fun t=>some (.k (a.v::t.v) (fun fd h=>have q:=t.h fd h;⟨Ho (a.h fd h) q.1,congrArg (·+1) q.2.1,by show As (·.1) ((false,assign (.Name x p) fd.env)::assignEach es fd.env)=none;refine wg W6 (wg q.2.2 ?_);rfl⟩))
 | .Attribute o x p::es=>(R.a c (.Attribute o x p)).bind fun a=>(cTs c es).bind fun t=>some (.k (a.v::t.v) (fun fd h=>have q:=t.h fd h;⟨Ho (a.h fd h) q.1,congrArg (·+1) q.2.1,by show As (·.1) ((false,assign (.Attribute o x p) fd.env)::assignEach es fd.env)=none;refine wg W6 (wg q.2.2 ?_);rfl⟩))
 | _=>none
end
theorem ID {e:Expr} {op:CmpOp} (h:cat e≤3):behindInMarks op e=false:=by
 cases e <;> first | rfl | exact absurd (show 9≤3 from h) (by decide)
section
variable {g:Gl} {fd:Fd} {A:Around} {l e:Expr} {a:XE V} {pos p0:Pos}
theorem n_isn' {op:CmpOp} {n:Bool} (h:op=(if n then .IsNot else .Is)∧∃kd p,e= .Constant .none kd p) (hl:NV g fd A l a):NV g fd A (.Compare l [op] [e] pos) (xun (Hf n) a):=by
 obtain ⟨rfl,kd,p,rfl⟩:=h;exact n_isn hl
theorem nb_isn' {op:CmpOp} {n:Bool} (h:op=(if n then .IsNot else .Is)∧∃kd p,e= .Constant .none kd p) (hl:NV g fd A l a):NB g fd A (.Compare l [op] [e] pos) (xtb (xun (Hf n) a)):=by
 obtain ⟨rfl,kd,p,rfl⟩:=h;exact nb_isn hl
theorem n_from' {n:Int} (h:∃kd p,e= .Constant (.int n) kd p) (e1:n=1) (hl:NV g fd A l a):NV g fd A (.Subscript l (.Slice (some e) none none p0) pos) (xun CF a):=by
 obtain ⟨kd,p,rfl⟩:=h;refine wg e1 ?_;exact n_from hl
theorem n_to1' {n:Int} (h:∃kd p,e= .Constant (.int n) kd p) (e1:n=1) (hl:NV g fd A l a):NV g fd A (.Subscript l (.Slice none (some e) none p0) pos) (xun to1A a):=by
 obtain ⟨kd,p,rfl⟩:=h;refine wg e1 ?_;exact n_to1 hl
theorem n_script' {n:Int} {sc:Addr} {ns:List Int} (O:∃sv:List Value,g.h₀.IsList sc sv.toArray∧IntsAre sv ns∧sv.length≤4096) (h:∃kd p,e= .Constant (.int n) kd p) (e1:n=20) (hl:NV g fd A l a):NV g fd A (.Subscript l (.Slice none (some e) none p0) pos) (xun (scrA (.ref sc) ns) a):=by
 obtain ⟨kd,p,rfl⟩:=h
 obtain ⟨sv,h1,h2,h3⟩:=O
 refine wg e1 ?_;exact n_script h1 h2 h3 hl
theorem n_rev2' (h:∃kd p p',e= .UnaryOp .USub (.Constant (.int 1) kd p) p') (hl:NV g fd A l a):NV g fd A (.Subscript l (.Slice none none (some e) p0) pos) (xun rev2A a):=by
 obtain ⟨kd,p,p',rfl⟩:=h;exact n_rev2 hl
end
structure BmP (g:Gl) (A:Around) (x:Str) where
 k:Nat
 op:Fn
 ok:∃T id,RcOk k T∧PlainAttrs T∧Slot T x id∧typeOf (.builtin id)=pure (.type "method_descriptor")∧NF g A (.builtin id) op
structure BcP (g:Gl) (A:Around) (x:Str) where
 op:Fn
 ok:∃f,Blt x f∧NF g A f op
noncomputable section
section
variable {g:Gl} {A:Around} {m:Nat} {Fc:Addr→Fn} {sc:Addr} {ns:List Int} (R:Cm g A) (hA:Rn A m) (O:Ok g m Fc sc ns)
noncomputable def bmOf (x:Str) (two:Bool):Option (BmP g A x):=
 if h:x="append" then some ⟨0,BZ,_,_,rc_l,f9,h▸F.slot_list_append,F.type_list_append,b_append⟩
 else if h:x="extend" then some ⟨0,CZ,_,_,rc_l,f9,h▸b8,F.type_list_extend,b_extend⟩
 else if h:x="index" then some ⟨0,Hg,_,_,rc_l,f9,h▸F.slot_list_index,F.type_list_index,b_index hA.1⟩
 else if h:x="setdefault" then some ⟨1,Bt,_,_,rc_d,F.plainAttrs_dict,h▸F.slot_dict_setdefault,F.type_dict_setdefault,b_setdef hA.1⟩
 else if h:x="isspace" then some ⟨2,Hh,_,_,rc_s,F.plainAttrs_str,h▸F.slot_str_isspace,F.type_str_isspace,b_space⟩
 else if h:x="pop" then (match two with
  | true=>some ⟨1,opDPop,_,_,rc_d,F.plainAttrs_dict,h▸F.slot_dict_pop,F.type_dict_pop,b_dpop hA.1⟩
  | false=>some ⟨0,opPop,_,_,rc_l,f9,h▸F.slot_list_pop,F.type_list_pop,b_pop⟩)
 else none
noncomputable def bcOf (x:Str) (k:Nat):Option (BcP g A x):=
 if h:x="len" then some ⟨Bh,_,h▸B_len,b_len⟩
 else if h:x="int" then some ⟨opInt,_,h▸B_int,b_int⟩
 else if h:x="str" then some ⟨opStr,_,h▸B_str,b_str⟩
 else if h:x="tuple" then some ⟨CJ,_,h▸B_tuple,b_tuple⟩
 else if h:x="sum" then some ⟨opSum,_,h▸B_sum,b_sum hA.1.1⟩
 else if h:x="max" then some ⟨opMax,_,h▸B_max,b_max hA.1.1⟩
 else if h:x="sorted" then (match k with
  | 1=>some ⟨DI,_,h▸Ez,b_sortedI hA.1.1⟩
  | _=>some ⟨Ep,_,h▸Ez,b_sorted hA.1⟩)
 else none
noncomputable def Y2 (g:Gl) (A:Around) (o:Value→Value→Sem Value):Type:={f:P2//NO2 g A o f}
noncomputable def Y2.v {g:Gl} {A:Around} {o} (a:Y2 g A o):P2:=a.1
theorem Y2.h {g:Gl} {A:Around} {o} (a:Y2 g A o):NO2 g A o a.v:=a.2
noncomputable def Y2.k {g:Gl} {A:Around} {o} (f:P2) (h:NO2 g A o f):Y2 g A o:=⟨f,h⟩
noncomputable def binA:(op:Operator)→Option (Y2 g A (binaryOp op))
 | .Add=>some (.k CB o_add)
 | .Sub=>some (.k Fy o_sub)
 | .Mult=>some (.k mulA o_mul)
 | .FloorDiv=>some (.k fdivA o_fdiv)
 | .Mod=>some (.k modA o_mod)
 | _=>none
noncomputable def cmpA (k:Nat):(op:CmpOp)→Option (Y2 g A (compareOp op))
 | .Eq=>some (.k (Bl false) (o_eq hA.1))
 | .NotEq=>some (.k (Bl true) (o_ne hA.1))
 | .Lt=>some (.k ltA o_lt)
 | .LtE=>some (.k leA o_le)
 | .Gt=>some (.k gtA o_gt)
 | .In=>(match k with
  | 1=>some (.k (indA false) (o_ind hA.1))
  | _=>some (.k insA o_ins))
 | .NotIn=>(match k with
  | 1=>some (.k (indA true) (o_notInd hA.1))
  | _=>some (.k (inlA true) (o_notInl hA.1)))
 | _=>none
variable (c:Cx)
noncomputable def isN:(op:CmpOp)→(e:Expr)→Option {n:Bool//op=(if n then .IsNot else .Is)∧∃kd p,e= .Constant .none kd p}
 | .Is,.Constant .none kd p=>some ⟨false,rfl,kd,p,rfl⟩
 | .IsNot,.Constant .none kd p=>some ⟨true,rfl,kd,p,rfl⟩
 | _,_=>none
noncomputable def vCmp (l:Expr) (op:CmpOp) (r:Expr) (pos:Pos):TV g A c (.Compare l [op] [r] pos):=(R.v c l).bind fun a=>match isN op r with
 | some n=>some (.k (xun (Hf n.1) a.v) (fun fd h=>n_isn' n.2 (a.h fd h)))
 | none=>(R.v c r).bind fun b=>(cmpA hA (hint pos) op).bind fun f=>if h:cat r≤3 then some (.k (BJ f.v a.v b.v) (fun fd k=>n_cmp (a.h fd k) (b.h fd k) f.h (ID h))) else none
noncomputable def bCmp (l:Expr) (op:CmpOp) (r:Expr) (pos:Pos):TB g A c (.Compare l [op] [r] pos):=(R.v c l).bind fun a=>match isN op r with
 | some n=>some (.k (xtb (xun (Hf n.1) a.v)) (fun fd h=>nb_isn' n.2 (a.h fd h)))
 | none=>(R.v c r).bind fun b=>(cmpA hA (hint pos) op).bind fun f=>if h:cat r≤3 then some (.k (xtb (BJ f.v a.v b.v)) (fun fd k=>nb_cmp (a.h fd k) (b.h fd k) f.h (ID h))) else none
noncomputable def vName (x:Str) (p:Pos):TV g A c (.Name x p):=
 if h:c.ns[c.ns.idxOf x]?=some x∧(x==("__debug__":Str))=false then some (.k (BB (c.ns.idxOf x)) (fun fd k=>n_local (k.name h.1) h.2))
 else if h:x="MOST_PATTERNS"∧c.sc.lookup x=some .globalImplicit then some (.k (BH (.int 2000)) (fun fd k=>by
  obtain ⟨t,ht⟩:=O.mo
  exact n_globint (k.kind.trans h.2) (h.1▸ht) (by refine wg h.1 ?_;decide+kernel)))
 else none
noncomputable def vConst (kd:Nat) (p:Pos):(v:Const)→TV g A c (.Constant v kd p)
 | .int i=>some (.k (BH (.int i)) (fun zz zz=>n_int))
 | .str i=>some (.k (BH (.str i)) (fun zz zz=>n_str))
 | .bool i=>some (.k (BH (.bool i)) (fun zz zz=>n_bool))
 | .none=>some (.k (BH .none) (fun zz zz=>n_none))
 | _=>none
noncomputable def one?:(e:Expr)→Option {n:Int//∃kd p,e= .Constant (.int n) kd p}
 | .Constant (.int n) kd p=>some ⟨n,kd,p,rfl⟩
 | _=>none
noncomputable def neg?:(e:Expr)→Option (PLift (∃kd p p',e= .UnaryOp .USub (.Constant (.int 1) kd p) p'))
 | .UnaryOp .USub e p'=>(one? e).bind fun n=>if h:n.1=1 then some ⟨have ⟨kd,p,q⟩:=n.2;⟨kd,p,p',by exact wg q (wg h rfl)⟩⟩ else none
 | _=>none
noncomputable def vSub (v s:Expr) (pos:Pos):TV g A c (.Subscript v s pos):=(R.v c v).bind fun a=>match s with
 | .Slice l u st p=>(match l,u,st with
  | some e,none,none=>(one? e).bind fun n=>if h:n.1=1 then some (.k (xun CF a.v) (fun fd k=>n_from' n.2 h (a.h fd k))) else none
  | none,some e,none=>(one? e).bind fun n=>if h:n.1=1 then some (.k (xun to1A a.v) (fun fd k=>n_to1' n.2 h (a.h fd k)))
   else if h:n.1=20 then some (.k (xun (scrA (.ref sc) ns) a.v) (fun fd k=>n_script' O.sc n.2 h (a.h fd k))) else none
  | none,none,some e=>(neg? e).bind fun n=>some (.k (xun rev2A a.v) (fun fd k=>n_rev2' n.down (a.h fd k)))
  | _,_,_=>none)
 | s=>if h:isSl s=false then (R.v c s).bind fun b=>(match hint pos with
  | 1=>some (.k (BJ CH a.v b.v) (fun fd k=>n_two (fun q=>AX q) (a.h fd k) (b.h fd k) (o_ditem hA.1 fun zz zz=>l_sub h)))
  | _=>some (.k (BJ BN a.v b.v) (fun fd k=>n_two (fun q=>AX q) (a.h fd k) (b.h fd k) (o_item fun zz zz=>l_sub h)))) else none
end
end
noncomputable def name?:(e:Expr)→Option {q:Str×Pos//e= .Name q.1 q.2}
 | .Name x p=>some ⟨(x,p),rfl⟩
 | _=>none
noncomputable def callN?:(e:Expr)→Option {q:(Str×Pos)×List Expr×Pos//e= .Call (.Name q.1.1 q.1.2) q.2.1 [] q.2.2}
 | .Call f a k p=>(name? f).bind fun q=>(match k with
  | []=>some ⟨(q.1,a,p),congrArg (fun f=>Expr.Call f a [] p) q.2⟩
  | _=>none)
 | _=>none
noncomputable def sole?:(es:List Expr)→Option {e:Expr//es=[e]}
 | [e]=>some ⟨e,rfl⟩
 | _=>none
noncomputable def kw1?:(ks:List Keyword)→Option {q:(Str×Pos)×Pos//ks=[⟨some (C7 "key"),.Name q.1.1 q.1.2,q.2⟩]}
 | [⟨n,v,kp⟩]=>(name? v).bind fun y=>if h:n=some (C7 "key") then some ⟨(y.1,kp),h▸congrArg (fun v=>[(⟨n,v,kp⟩:Keyword)]) y.2⟩ else none
 | _=>none
noncomputable def tup?:(e:Expr)→Option {q:List Expr×Nat×Pos//e= .Tuple q.1 q.2.1 q.2.2}
 | .Tuple es k p=>some ⟨(es,k,p),rfl⟩
 | _=>none
section
variable {g:Gl} {fd:Fd} {A:Around} {m:Nat} {Fc:Addr→Fn} {sc:Addr} {ns:List Int} {c:Cx} {x y:Str} {p ip pos ipos ap kp:Pos} {args es:List Expr} {e e0 o T:Expr} {a b mo:XE V} {ms:List (XE V)} {fn op:Fn}
@[reducible] noncomputable def gi (c:Cx) (x:Str):Prop:=c.sc.lookup x=some .globalImplicit
theorem n_sset' (hA:Rm A m) (O:Ok g m Fc sc ns) (k:FK c fd) (h1:args=[e0]) (h2:e0= .Call (.Name y ip) es [] ipos) (h3:es=[e]) (h:(x="sorted"∧y="set")∧gi c x∧gi c y∧cat e≤3) (ha:NV g fd A e a):NV g fd A (.Call (.Name x p) args [] pos) (xun Dd a):=by
 subst h1 h2 h3
 obtain ⟨⟨rfl,rfl⟩,h4,h5,h6⟩:=h
 exact n_sset hA ha (Ez.ok O k h4) (B_set.ok O k h5) rfl rfl (IB h6)
theorem n_isint' (O:Ok g m Fc sc ns) (k:FK c fd) (h1:args=[e,e0]) (h2:e0= .Name y ip) (h:(x="isinstance"∧y="int")∧gi c x∧gi c y∧cat e≤3) (ha:NV g fd A e a):NV g fd A (.Call (.Name x p) args [] pos) (BK En [a]):=by
 subst h1 h2
 obtain ⟨⟨rfl,rfl⟩,h4,h5,h6⟩:=h
 exact n_isint ha (B_isi.ok O k h4) (B_int.ok O k h5) fun zz=>IB h6
theorem n_key' {q:Addr} {ks:List Keyword} (hA:Rn A m) (O:Ok g m Fc sc ns) (k:FK c fd) (h1:args=[e]) (h2:ks=[⟨some (C7 "key"),.Name y ip,kp⟩]) (hq:fnA.lookup y=some q) (h:x="sorted"∧gi c x∧gi c y∧cat e≤3∧(y==("__debug__":Str))=false) (ha:NV g fd A e a):NV g fd A (.Call (.Name x p) args ks pos) (BK (Ca (Fc q)) [a]):=by
 subst h1 h2
 obtain ⟨rfl,h4,h5,h6,h7⟩:=h
 exact n_sortedK hA (O.fn _ _ hq).2.2 ha (Ez.ok O k h4) ⟨k.kind.trans h5,(O.fn _ _ hq).1,h7⟩ (IB h6) rfl
theorem n_own' {q:Addr} (hA:Rm A m) (O:Ok g m Fc sc ns) (k:FK c fd) (hq:fnA.lookup x=some q) (h:gi c x∧(x==("__debug__":Str))=false) (ha:NAr g fd A args ms):NV g fd A (.Call (.Name x p) args [] pos) (BK (Fc q) ms):=
 n_call hA ha (O.fn _ _ hq).2.2 (k.kind.trans h.1) (O.fn _ _ hq).1 (O.fn _ _ hq).2.1 h.2 rfl
theorem n_bc' (O:Ok g m Fc sc ns) (k:FK c fd) (B:∃f,Blt x f∧NF g A f op) (h:gi c x) (ha:NAr g fd A args ms):NV g fd A (.Call (.Name x p) args [] pos) (BK op ms):=
 B.elim fun zz w=>n_bcall ha w.2 (w.1.ok O k h) rfl
@[reducible] noncomputable def mOk (o:Expr) (ap pos:Pos) (args:List Expr):Prop:=cat o=0∧(ap.endLine==pos.line)=true∧args.length<30
theorem n_extz' (hA:A.handled=none) (O:Ok g m Fc sc ns) (k:FK c fd) (h1:args=[e0]) (h2:e0= .Call (.Name y ip) es [] ipos) (h3:ms=[a,b]) (h:(x="extend"∧y="zip")∧gi c y∧mOk o ap pos args) (ho:NV g fd A o mo) (ha:NAr g fd A es ms):NV g fd A (.Call (.Attribute o x ap) args [] pos) (xextz mo a b):=by
 subst h1 h2 h3
 obtain ⟨⟨rfl,rfl⟩,h4,h5⟩:=h
 exact n_extz (ex:=[]) hA ho ha (B_zip.ok O k h4) (l_meth h5.1 h5.2.1 h5.2.2 fun zz=>rfl) rfl
theorem n_bm' {rk:Nat} (B:∃T id,RcOk rk T∧PlainAttrs T∧Slot T x id∧typeOf (.builtin id)=pure (.type "method_descriptor")∧NF g A (.builtin id) op) (h:mOk o ap pos args) (ho:NV g fd A o mo) (ha:NAr g fd A args ms):NV g fd A (.Call (.Attribute o x ap) args [] pos) (xbm rk op mo ms):=
 B.elim fun zz w=>w.elim fun zz w=>n_bm w.1 w.2.1 w.2.2.1 w.2.2.2.1 ho ha w.2.2.2.2 (l_meth h.1 h.2.1 h.2.2 ha.p)
theorem n_meth' {C q:Addr} (hA:Rm A m) (O:Ok g m Fc sc ns) (hq:(meA C).lookup x=some q) (h:mOk o ap pos args) (ho:NV g fd A o mo) (ha:NAr g fd A args ms):NV g fd A (.Call (.Attribute o x ap) args [] pos) (BV C (Fc q) mo ms):=
 have q:=O.me _ _ _ hq;n_meth hA ho ha q.2.2 q.1 (O.fl C▸q.2.1) (l_meth h.1 h.2.1 h.2.2 ha.p)
theorem n_listr' (hA:A.handled=none) (O:Ok g m Fc sc ns) (k:FK c fd) (h1:args=[e0]) (h2:e0= .Call (.Name y ip) es [] ipos) (h:(x="list"∧y="range")∧gi c x∧gi c y) (ha:NAr g fd A es ms):NL g fd A (.Call (.Name x p) args [] pos) (xbl Er ms):=by
 subst h1 h2
 obtain ⟨⟨rfl,rfl⟩,h4,h5⟩:=h
 exact n_listr hA ha (B_list.ok O k h4) (B_range.ok O k h5) rfl rfl
theorem n_copy' (O:Ok g m Fc sc ns) (k:FK c fd) (h:x="list"∧gi c x) (ha:NAr g fd A args ms):NL g fd A (.Call (.Name x p) args [] pos) (xbl Hj ms):=by
 obtain ⟨rfl,h4⟩:=h
 exact n_bl ha b_copy (B_list.ok O k h4) rfl
theorem n_rng' (O:Ok g m Fc sc ns) (k:FK c fd) (hT:Tg T) (h2:e0= .Call (.Name y ip) es [] ipos) (h:y="range"∧gi c y) (ha:NAr g fd A es ms):NI g fd A T e0 (ibc rngK ms):=by
 subst h2
 obtain ⟨rfl,h4⟩:=h
 exact n_ibc ha (f_rng hT) (B_range.ok O k h4) rfl
theorem n_enm' {ts:List Expr} {tk:Nat} (O:Ok g m Fc sc ns) (k:FK c fd) (hT:T= .Tuple ts tk p) (h2:e0= .Call (.Name y ip) es [] ipos) (h:y="enumerate"∧gi c y) (ha:NAr g fd A es ms):NI g fd A T e0 (ibc enmK ms):=by
 subst h2 hT
 obtain ⟨rfl,h4⟩:=h
 exact n_ibc ha f_enm (B_enm.ok O k h4) rfl
theorem n_zip' {ts:List Expr} {tk:Nat} (O:Ok g m Fc sc ns) (k:FK c fd) (hT:T= .Tuple ts tk p) (h2:e0= .Call (.Name y ip) es [] ipos) (h:y="zip"∧gi c y) (ha:NAr g fd A es ms):NI g fd A T e0 (ibc zipK ms):=by
 subst h2 hT
 obtain ⟨rfl,h4⟩:=h
 exact n_ibc ha f_zip (B_zip.ok O k h4) rfl
end
noncomputable section
section
variable {g:Gl} {A:Around} {m:Nat} {Fc:Addr→Fn} {sc:Addr} {ns:List Int} (R:Cm g A) (hA:Rn A m) (O:Ok g m Fc sc ns) (c:Cx)
noncomputable def vSet? (x:Str) (p pos:Pos) (args:List Expr):TV g A c (.Call (.Name x p) args [] pos):=(sole? args).bind fun e0=>(callN? e0.1).bind fun q=>(sole? q.1.2.1).bind fun e=>
 if h:(x="sorted"∧q.1.1.1="set")∧gi c x∧gi c q.1.1.1∧cat e.1≤3 then (R.v c e.1).bind fun a=>some (.k (xun Dd a.v) (fun fd k=>n_sset' hA.1 O k e0.2 q.2 e.2 h (a.h fd k))) else none
noncomputable def vIsi? (x:Str) (p pos:Pos):(args:List Expr)→TV g A c (.Call (.Name x p) args [] pos)
 | [e,e0]=>(name? e0).bind fun q=>if h:(x="isinstance"∧q.1.1="int")∧gi c x∧gi c q.1.1∧cat e≤3 then (R.v c e).bind fun a=>some (.k (BK En [a.v]) (fun fd k=>n_isint' O k rfl q.2 h (a.h fd k))) else none
 | _=>none
noncomputable def vKey? (x:Str) (p pos:Pos) (args:List Expr) (ks:List Keyword):TV g A c (.Call (.Name x p) args ks pos):=(sole? args).bind fun e=>(kw1? ks).bind fun y=>match hq:fnA.lookup y.1.1.1 with
 | some q=>if h:x="sorted"∧gi c x∧gi c y.1.1.1∧cat e.1≤3∧(y.1.1.1==("__debug__":Str))=false then (R.v c e.1).bind fun a=>some (.k (BK (Ca (Fc q)) [a.v]) (fun fd k=>n_key' hA O k e.2 y.2 hq h (a.h fd k))) else none
 | none=>none
noncomputable def vOwn? (x:Str) (p pos:Pos) (args:List Expr):TV g A c (.Call (.Name x p) args [] pos):=(FA R c args).bind fun ms=>match bcOf hA x (hint pos) with
 | some B=>if h:gi c x then some (.k (BK B.op ms.v) (fun fd k=>n_bc' O k B.ok h (ms.h fd k))) else none
 | none=>match hq:fnA.lookup x with
  | some q=>if h:gi c x∧(x==("__debug__":Str))=false then some (.k (BK (Fc q) ms.v) (fun fd k=>n_own' hA.1 O k hq h (ms.h fd k))) else none
  | none=>none
noncomputable def alt {α:Type} (a b:Option α):Option α:=match a with
 | some x=>some x
 | none=>b
noncomputable def vCallN (x:Str) (p pos:Pos) (args:List Expr):TV g A c (.Call (.Name x p) args [] pos):=alt (vSet? R hA O c x p pos args) (alt (vIsi? R O c x p pos args) (vOwn? R hA O c x p pos args))
noncomputable def vExtz? (o:Expr) (x:Str) (ap pos:Pos) (args:List Expr):TV g A c (.Call (.Attribute o x ap) args [] pos):=(sole? args).bind fun e0=>(callN? e0.1).bind fun q=>
 if h:(x="extend"∧q.1.1.1="zip")∧gi c q.1.1.1∧mOk o ap pos args then (R.v c o).bind fun mo=>(FA R c q.1.2.1).bind fun ms=>(match hm:ms.v with
  | [a,b]=>some (.k (xextz mo.v a b) (fun fd k=>n_extz' hA.1.1 O k e0.2 q.2 hm h (mo.h fd k) (ms.h fd k)))
  | _=>none) else none
noncomputable def vMeth? (o:Expr) (x:Str) (ap pos:Pos) (args:List Expr):TV g A c (.Call (.Attribute o x ap) args [] pos):=if h:mOk o ap pos args then (R.v c o).bind fun mo=>(FA R c args).bind fun ms=>(match bmOf hA x (decide (0<args.length)) with
 | some B=>some (.k (xbm B.k B.op mo.v ms.v) (fun fd k=>n_bm' B.ok h (mo.h fd k) (ms.h fd k)))
 | none=>match hq:(meA (ED c.me o)).lookup x with
  | some q=>some (.k (BV (ED c.me o) (Fc q) mo.v ms.v) (fun fd k=>n_meth' hA.1 O hq h (mo.h fd k) (ms.h fd k)))
  | none=>none) else none
noncomputable def vMeth (o:Expr) (x:Str) (ap pos:Pos) (args:List Expr):TV g A c (.Call (.Attribute o x ap) args [] pos):=alt (vExtz? R hA O c o x ap pos args) (vMeth? R hA O c o x ap pos args)
noncomputable def lCall (x:Str) (p pos:Pos) (args:List Expr):TL g A c (.Call (.Name x p) args [] pos):=alt ((sole? args).bind fun e0=>(callN? e0.1).bind fun q=>if h:(x="list"∧q.1.1.1="range")∧gi c x∧gi c q.1.1.1 then (FA R c q.1.2.1).bind fun ms=>some (.k (xbl Er ms.v) (fun fd k=>n_listr' hA.1.1 O k e0.2 q.2 h (ms.h fd k))) else none)
 (if h:x="list"∧gi c x then (FA R c args).bind fun ms=>some (.k (xbl Hj ms.v) (fun fd k=>n_copy' O k h (ms.h fd k))) else none)
noncomputable def tg? (T:Expr):Option (PLift (Tg T)):=alt ((name? T).bind fun q=>some ⟨.inl ⟨q.1.1,q.1.2,q.2⟩⟩) ((tup? T).bind fun q=>some ⟨.inr ⟨q.1.1,q.1.2.1,q.1.2.2,q.2⟩⟩)
noncomputable def iSrc (T e:Expr):TI g A c T e:=alt ((callN? e).bind fun q=>(FA R c q.1.2.1).bind fun ms=>alt
  (if h:q.1.1.1="range"∧gi c q.1.1.1 then (tg? T).bind fun hT=>some (.k (ibc rngK ms.v) (fun fd k=>n_rng' O k hT.down q.2 h (ms.h fd k))) else none)
  ((tup? T).bind fun t=>if h:q.1.1.1="enumerate"∧gi c q.1.1.1 then some (.k (ibc enmK ms.v) (fun fd k=>n_enm' O k t.2 q.2 h (ms.h fd k))) else
   if h:q.1.1.1="zip"∧gi c q.1.1.1 then some (.k (ibc zipK ms.v) (fun fd k=>n_zip' O k t.2 q.2 h (ms.h fd k))) else none))
 ((tg? T).bind fun hT=>(R.v c e).bind fun a=>some (.k (Bi a.v) (fun fd k=>n_src hT.down (a.h fd k))))
noncomputable def aTop:(e:Expr)→TA g A c e
 | .Name x p=>if h:c.ns[c.ns.idxOf x]?=some x∧asgB c x=true then some (.k (BE (c.ns.idxOf x)) (fun fd k=>a_name (k.name h.1) (k.asg h.2))) else none
 | .Tuple es tk p=>(cTs R c es).bind fun ts=>some (.k (Bw ts.v) (fun fd k=>have q:=ts.h fd k;a_tup hA.1.1 q.1 q.2.1 q.2.2))
 | .Subscript o i p=>(R.v c o).bind fun a=>(R.v c i).bind fun b=>(match hint p with
  | 1=>some (.k (De Em a.v b.v) (fun fd k=>a_sub (st_d hA.1) (a.h fd k) (b.h fd k)))
  | _=>some (.k (De setL a.v b.v) (fun fd k=>a_sub st_l (a.h fd k) (b.h fd k))))
 | .Attribute o x p=>if h:x∈flA (ED c.me o)∧(flA (ED c.me o))[(flA (ED c.me o)).idxOf x]?=some x then (R.v c o).bind fun a=>some (.k (CN (ED c.me o) ((flA (ED c.me o)).idxOf x) a.v) (fun fd k=>a_attr (a.h fd k) (O.at_ _ _ h.1).2 (O.fl _▸h.2))) else none
 | _=>none
end
end
noncomputable def xandB (x y:XE Bool):XE Bool:=fun lc hp K=>x lc hp fun b hp=>cnd b (y lc hp K) (K false hp)
theorem nb_and {g:Gl} {fd:Fd} {A:Around} {x y:Expr} {p q:XE Bool} {pos:Pos} (h:NB g fd A x p) (h':NB g fd A y q):NB g fd A (.BoolOp .And [x,y] pos) (xandB p q):=
 fun S F q zz zz k=>wpAny_isTrue_BoolOp (wpAny_allTrue_And_cons (h S F q fun {b _ _ _} q S1 X1=>match b,q with
  | false,q=>k (q.2 rfl) S1 X1
  | true,q=>wpAny_allTrue_And_cons (h' S1 (F.ext S.1 X1) (q.1 rfl) fun {b _ _ _} q S2 X2=>match b,q with
   | false,q=>k q S2 (X1.trans X2)
   | true,q=>wpAny_allTrue_And_nil (k q S2 (X1.trans X2)))))
noncomputable section
section
variable {g:Gl} {A:Around} {m:Nat} {Fc:Addr→Fn} {sc:Addr} {ns:List Int} (R:Cm g A) (hA:Rn A m) (O:Ok g m Fc sc ns) (c:Cx)
structure CP where
 nl:Nat
 caps:List Nat
 x:XI
 t:XT
 f:XM→XM
 m:XM
@[reducible] noncomputable def CpOk (g:Gl) (A:Around) (c:Cx) (elt:Expr) (gens:List Comprehension) (s:Scope) (pos:Pos) (q:CP):Prop:=∃T it ifs rest,gens=⟨T,it,ifs,0⟩::rest∧cat it≤3∧∀fd,FK c fd→NI g fd A T it q.x∧∃cl oc names tail,CompS g fd A s cl oc names q.nl q.caps T elt it ifs rest pos tail q.t q.f q.m
noncomputable def cIf (c:Cx):(ifs:List Expr)→TF g A c ifs
 | []=>some (.k id (fun zz zz=>if_nil))
 | [e]=>(R.b c e).bind fun b=>some (.k (DL b.v) (fun fd k=>if_one (b.h fd k)))
 | _=>none
noncomputable def cComp (elt:Expr) (s:Scope) (pos:Pos):(gens:List Comprehension)→Option {q:CP//CpOk g A c elt gens s pos q}
 | []=>none
 | ⟨T,it,ifs,a1⟩::rest=>if h:(a1=0∧cat it≤3)∧compB c s then (R.i c T it).bind fun x=>(R.a (cxC c s.names) T).bind fun t=>(cIf R (cxC c s.names) ifs).bind fun f=>(R.v (cxC c s.names) elt).bind fun a=>(match rest with
  | []=>some ⟨⟨(Gq s.names).length,(CD s.names).map fun x=>c.ns.idxOf x,x.v,t.v,f.v,BY a.v⟩,T,it,ifs,[],by exact wg h.1.1 rfl,h.1.2,fun fd k=>⟨x.h fd k,_,_,_,_,comp_ok k h.2,fun C=>t.h _ (DG k h.2),fun C=>f.h _ (DG k h.2),fun C D=>m_emit (a.h _ (DG k h.2)),fun q=>turn_one q⟩⟩
  | [⟨T2,it2,ifs2,a2⟩]=>if h2:a2=0∧cat it2≤3 then (R.i (cxC c s.names) T2 it2).bind fun x2=>(R.a (cxC c s.names) T2).bind fun t2=>(cIf R (cxC c s.names) ifs2).bind fun f2=>
   some ⟨⟨(Gq s.names).length,(CD s.names).map fun x=>c.ns.idxOf x,x.v,t.v,f.v,Hl x2.v t2.v (f2.v (BY a.v))⟩,T,it,ifs,[⟨T2,it2,ifs2,0⟩],by exact wg h.1.1 (wg h2.1 rfl),h.1.2,fun fd k=>⟨x.h fd k,_,_,_,_,comp_ok k h.2,fun C=>t.h _ (DG k h.2),fun C=>f.h _ (DG k h.2),
    fun C D=>m_inner hA.1.1 (x2.h _ (DG k h.2)) (t2.h _ (DG k h.2)) (f2.h _ (DG k h.2)) (a.h _ (DG k h.2)) fun zz=>IC h2.2,fun q=>turn_two q⟩⟩ else none
  | _=>none) else none
theorem cp_comp {elt:Expr} {gens:List Comprehension} {s:Scope} {pos:Pos} {q:CP} {fd:Fd} (hh:A.handled=none) (h:CpOk g A c elt gens s pos q) (k:FK c fd):NL g fd A (.ListComp elt gens s pos) (Bf q.nl q.caps q.x q.t (q.f q.m)):=by
 refine ex3 h fun T it ifs hh=>?_;clear h;refine Bo hh fun rest hh1 h1 h2=>?_;clear hh;obtain rfl:=hh1
 obtain ⟨h3,cl,oc,names,tail,Z⟩:=h2 fd k
 exact n_comp hh h3 Z fun zz=>IC h1
noncomputable def lTop:(e:Expr)→TL g A c e
 | .List es p=>(FA R c es).bind fun ms=>if h:ms.v.length≤4096 then some (.k (Bj ms.v) (fun fd k=>n_list (ms.h fd k).v h)) else none
 | .BinOp l .Add r p=>(R.v c l).bind fun a=>(R.v c r).bind fun b=>some (.k (xcat a.v b.v) (fun fd k=>n_cat (a.h fd k) (b.h fd k)))
 | .ListComp elt gens s p=>(cComp R hA c elt s p gens).bind fun q=>some (.k (Bf q.1.nl q.1.caps q.1.x q.1.t (q.1.f q.1.m)) (fun fd k=>cp_comp c hA.1.1 q.2 k))
 | .Call f as ks p=>(match f,ks with
  | .Name x xp,[]=>lCall R hA O c x xp p as
  | _,_=>none)
 | _=>none
noncomputable def lcv {e:Expr} (k:Nat) (o:TL g A c e):TV g A c e:=o.bind fun x=>match k with
 | 2=>some (.k (Bv x.v) (fun fd h=>n_cell (x.h fd h)))
 | _=>some (.k (Bg x.v) (fun fd h=>n_lst (x.h fd h)))
noncomputable def vTop:(e:Expr)→TV g A c e
 | .Name x p=>vName O c x p
 | .Constant v kd p=>vConst c kd p v
 | .BoolOp op vs p=>(match op,vs with
  | .And,[x,y]=>(R.v c x).bind fun a=>(R.v c y).bind fun b=>some (.k (xandV a.v b.v) (fun fd k=>n_andV (a.h fd k) (b.h fd k)))
  | _,_=>none)
 | .BinOp l op r p=>(match hint p with
  | 0=>(R.v c l).bind fun a=>(R.v c r).bind fun b=>(binA op).bind fun f=>some (.k (BJ f.v a.v b.v) (fun fd k=>n_bin (a.h fd k) (b.h fd k) f.h))
  | _=>lcv c (hint p) (lTop R hA O c (.BinOp l op r p)))
 | .IfExp t x y p=>(R.b c t).bind fun b=>(R.v c x).bind fun a=>(R.v c y).bind fun a'=>some (.k (xite b.v a.v a'.v) (fun fd k=>n_ite (b.h fd k) (a.h fd k) (a'.h fd k)))
 | .Dict ks vs p=>(match ks,vs with
  | [],[]=>some (.k (Bx []) (fun zz zz=>n_dict0))
  | k0::ks,vs=>(cPs R c p (k0::ks) vs).bind fun ms=>if h:(k0::ks).all (·.isSome)=true∧(k0::ks).length=vs.length∧(k0::ks).length≤15 then some (.k (Bx ms.v) (fun fd k=>n_dict hA.1 (ms.h fd k) h.1 h.2.1 h.2.2)) else none
  | _,_=>none)
 | .Compare l ops rs p=>(match ops,rs with
  | [op],[r]=>vCmp R hA c l op r p
  | _,_=>none)
 | .Call f as ks p=>(match f,ks with
  | .Name x xp,[]=>if x="list" then lcv c (hint p) (lTop R hA O c (.Call (.Name x xp) as [] p)) else vCallN R hA O c x xp p as
  | .Name x xp,k0::ks=>vKey? R hA O c x xp p as (k0::ks)
  | .Attribute o x ap,[]=>vMeth R hA O c o x ap p as
  | _,_=>none)
 | .FormattedValue v cv sp p=>(match sp with
  | none=>if h:cv=-1 then (R.v c v).bind fun a=>some (.k (xun fmtA a.v) (fun fd k=>h▸n_fmt (a.h fd k))) else none
  | _=>none)
 | .JoinedStr vs p=>(match vs with
  | e1::e2::es=>(cJs R c (e1::e2::es)).bind fun ms=>some (.k (GQ Z9 ms.v) (fun fd k=>n_fstr (ms.h fd k)))
  | _=>none)
 | .Attribute o x p=>if h:(flA (ED c.me o))[(flA (ED c.me o)).idxOf x]?=some x∧cat o=0 then (R.v c o).bind fun a=>some (.k (xun (BM (ED c.me o) ((flA (ED c.me o)).idxOf x)) a.v) (fun fd k=>n_attr (a.h fd k) (O.at_ _ _ (B9 h.1)).1 (O.fl _▸h.1) (l_ab h.2))) else none
 | .Subscript v s p=>vSub R hA O c v s p
 | .List es p=>lcv c (hint p) (lTop R hA O c (.List es p))
 | .ListComp e gs s p=>lcv c (hint p) (lTop R hA O c (.ListComp e gs s p))
 | .Tuple es kd p=>(FA R c es).bind fun ms=>if h:ms.v.length≤4096 then some (.k (BW ms.v) (fun fd k=>n_tup (ms.h fd k).v h)) else none
 | _=>none
noncomputable def bTop:(e:Expr)→TB g A c e
 | .Compare l ops rs p=>(match ops,rs with
  | [op],[r]=>bCmp R hA c l op r p
  | [o1,o2],[y,z]=>(R.v c l).bind fun a=>(R.v c y).bind fun b=>(R.v c z).bind fun d=>(cmpA hA 0 o1).bind fun f1=>(cmpA hA 0 o2).bind fun f2=>if h:cat z≤3 then some (.k (xchain f1.v f2.v a.v b.v d.v) (fun fd k=>nb_chain (a.h fd k) (b.h fd k) (d.h fd k) f1.h f2.h (by
    show [eval y fd.env,markedBehindIn o2 z (eval z fd.env)]=_
    unfold markedBehindIn
    exact wg (ID h) rfl))) else none
  | _,_=>none)
 | .UnaryOp .Not x p=>(R.b c x).bind fun b=>some (.k (xnot b.v) (fun fd k=>nb_not (b.h fd k)))
 | .BoolOp op vs p=>(match op,vs with
  | .Or,[x,y]=>(R.b c x).bind fun a=>(R.b c y).bind fun b=>some (.k (xor a.v b.v) (fun fd k=>nb_or (a.h fd k) (b.h fd k)))
  | .And,[x,y]=>(R.b c x).bind fun a=>(R.b c y).bind fun b=>some (.k (xandB a.v b.v) (fun fd k=>nb_and (a.h fd k) (b.h fd k)))
  | _,_=>none)
 | .Call f as ks p=>(R.v c (.Call f as ks p)).bind fun a=>some (.k (xtb a.v) (fun fd k=>nb_val (a.h fd k) rfl))
 | _=>none
end
end
noncomputable def swC (c:Cx) (x:Str) (p lp:Pos) (s:Scope):Bool:=c.sc.lookup x==some .local&&(p.line==lp.line)&& !(s.names.any fun (n,k)=>n==x&&(k== .local || k== .cell))
noncomputable def swN (c:Cx) (ts:List Expr):List Str:=ts.filterMap fun
 | .Name id pos=>if c.sc.lookup id==some .local&&pos.line==(ts.head?.map (·.pos.line)).getD 0 then some id else none
 | _=>none
noncomputable def swS (ts vs:List Expr):Bool:=(ts.length==2 || ts.length==3)&&vs.length==ts.length&& !(vs.any fun x=>swappedStores.match_5 (fun _=>Bool) x (fun _ _=>true) fun _=>false)
noncomputable def swG (c:Cx) (ts vs:List Expr):Bool:=(swN c ts).length==ts.length&&(swN c ts).eraseDups.length==(swN c ts).length&& !vs.all (foldedForSure 8)&& !vs.all (constantsAlone 8)
section
variable {c:Cx} {fd:Fd} (k:FK c fd)
include k
theorem FK.block:fd.env.blockKind= .function:=by unfold Env.blockKind;refine wg k.k ?_;rfl
theorem l_comp {elt:Expr} {gs:List Comprehension} {s:Scope} {lp p:Pos} {x:Str} {n:Nat}:swapsWith (.ListComp elt gs s lp) (some (.Name x p)) n fd.env=pure (swC c x p lp s):=by
 show pure (fd.env.blockKind== .function&&fd.env.kindOf x==some .local&&p.line==lp.line&& !(s.names.any fun (n,k)=>n==x&&(k== .local || k== .cell)))=_
 refine wg k.block (wg k.kind ?_);rfl
theorem l_names {ts:List Expr}:(ts.filterMap fun x=>swappedStores.match_8 (fun _=>Option Str) x (fun id pos=>if fd.env.kindOf id==some .local&&pos.line==(ts.head?.map (·.pos.line)).getD 0 then some id else none) fun _=>none)=swN c ts:=by
 unfold swN
 generalize (V3 (·.pos.line) ts.head?).getD 0=L
 induction ts with
 | nil=>rfl
 | cons t r ih=>
  refine wg AN (wg AN (wg ih ?_))
  cases t <;> first | rfl | (dsimp only;exact wg k.kind rfl)
theorem l_sw {ts vs:List Expr} {tk vk:Nat} {tp vp:Pos} (h:swS ts vs=true):swappedStores [.Tuple ts tk tp] (.Tuple vs vk vp) fd.env=(if (swN c ts).length !=ts.length || (swN c ts).eraseDups.length !=(swN c ts).length then pure none
  else if vs.all (foldedForSure 8) then pure none else if vs.all (constantsAlone 8) then unsupported "assign.tuple-of-constant-expressions:order-of-the-stores" else pure (some (swN c ts))):=by
 refine an2 (E3.mp h) fun h1 h2=>?_
 refine an2 (E3.mp h1) fun h3 h4=>?_
 unfold swappedStores
 dsimp only
 generalize hN:List.filterMap _ ts=N
 cases hN.symm.trans (l_names k)
 refine wg k.block (wg h3 ?_);rewrite[bne];refine wg h4 (wg (if_neg (by decide)) ?_)
 generalize hV:List.any vs _=b
 cases (hV.symm.trans (g7 _▸h2):b=false)
 rw[if_neg (by decide)]
 split
 ·rfl
 ·split
  ·rfl
  ·split <;> rfl
end
noncomputable section
section
variable {g:Gl} {A:Around} {m:Nat} {Fc:Addr→Fn} {sc:Addr} {ns:List Int} (R:Cm g A) (hA:Rn A m) (O:Ok g m Fc sc ns) (c:Cx)
theorem s_tt {fd:Fd} {ts vs:List Expr} {tk vk:Nat} {tp vp pos:Pos} {a:XE V} (hh:A.handled=none) (k:FK c fd) (h:swS ts vs=true∧swG c ts vs=true∧∀x∈swN c ts,c.ns[c.ns.idxOf x]?=some x∧asgB c x=true) (ha:NV g fd A (.Tuple vs vk vp) a):
  NS g fd A (exec (.Assign [.Tuple ts tk tp] (.Tuple vs vk vp) pos) fd.env) (xswap a ((swN c ts).map fun x=>c.ns.idxOf x)):=by
 refine an3 h fun h1 h2 h3=>?_;clear h
 simp only[swG,T5,beq_iff_eq,g7] at h2
 refine s_swap hh ha (fun j x hj=>?_) (A4 _) ((l_sw k h1).trans ?_) rfl
 ·have q:=h3 x (u6.mp (B9 hj))
  exact ⟨_,by refine wh List.map_reverse (wg G0 (wg hj ?_));rfl,k.name q.1,k.asg q.2⟩
 ·refine wg h2.1.1.2 (wg h2.1.1.1 (wg h2.1.2 (wg h2.2 (wg (bne_self_eq_false ..) ?_))));rfl
theorem s_tn {fd:Fd} {ts vs:List Expr} {tk vk:Nat} {tp vp pos:Pos} {a:XE V} {t:XT} (k:FK c fd) (h:swS ts vs=true∧((swN c ts).length !=ts.length)=true) (ha:NV g fd A (.Tuple vs vk vp) a) (ht:NA g fd A (assign (.Tuple ts tk tp) fd.env) t):
  NS g fd A (exec (.Assign [.Tuple ts tk tp] (.Tuple vs vk vp) pos) fd.env) (BO a t):=
 s_asg ha ht rfl ((l_sw k h.1).trans (by refine wg h.2 ?_;rfl)) rfl
noncomputable def sComp (x:Str) (p:Pos) (elt:Expr) (gs:List Comprehension) (s:Scope) (lp pos:Pos):TS g A c (.Assign [.Name x p] (.ListComp elt gs s lp) pos):=(cComp R hA c elt s lp gs).bind fun q=>if h:c.ns[c.ns.idxOf x]?=some x∧asgB c x=true then (match hs:swC c x p lp s with
 | true=>some (.k (BO (xlc (decide (hint lp≠2)) (Bf q.1.nl q.1.caps q.1.x q.1.t (q.1.f q.1.m))) (BE (c.ns.idxOf x))) (fun fd k=>by
   refine ex3 q.2 fun T it ifs hh=>?_;refine Bo hh fun rest hh1 h1 h2=>?_;clear hh;obtain rfl:=hh1
   obtain ⟨h3,cl,oc,names,tail,Z⟩:=h2 fd k
   exact s_asgcomp hA.1.1 h3 Z (fun zz=>IC h1) (k.name h.1) (k.asg h.2) (hs▸l_comp k)))
 | false=>(lcv c (hint lp) (some (.k (Bf q.1.nl q.1.caps q.1.x q.1.t (q.1.f q.1.m)) (fun fd k=>cp_comp c hA.1.1 q.2 k)):TL g A c (.ListComp elt gs s lp))).bind fun a=>some (.k (BO a.v (BE (c.ns.idxOf x))) (fun fd k=>s_set (a.h fd k) (k.name h.1) (k.asg h.2) (hs▸l_comp k)))) else none
noncomputable def sAsg (T v:Expr) (pos:Pos):TS g A c (.Assign [T] v pos):=(R.v c v).bind fun a=>(R.a c T).bind fun t=>if h:cat v≤2∧cat T≤3∧(cat T=0∨cat v≠2) then some (.k (BO a.v t.v) (fun fd k=>s_asg (a.h fd k) (t.h fd k) (l_swap h.1) (l_stores h.2.2) (l_each h.2.1))) else none
noncomputable def sTop:(s:Stmt)→TS g A c s
 | .Expr e p=>(R.v c e).bind fun a=>if h:cat e≤2 then some (.k (BX a.v) (fun fd k=>s_expr (a.h fd k) k.inter (l_swap h))) else none
 | .Return e p=>(match e with
  | some e=>(R.v c e).bind fun a=>some (.k (Ba a.v) (fun fd k=>s_ret (a.h fd k)))
  | none=>none)
 | .If t b o p=>(R.b c t).bind fun a=>(R.s c b).bind fun x=>(R.s c o).bind fun y=>some (.k (xif a.v x.v y.v) (fun fd k=>s_if (a.h fd k) (x.h fd k) (y.h fd k)))
 | .While t b o p=>(match o with
  | []=>(R.b c t).bind fun a=>(R.s c b).bind fun x=>some (.k (FR a.v x.v) (fun fd k=>s_while (a.h fd k) (x.h fd k)))
  | _=>none)
 | .For T i b o p=>(match o with
  | []=>if h:cat i≤3 then (R.i c T i).bind fun a=>(R.a c T).bind fun t=>(R.s c b).bind fun x=>some (.k (Ck a.v t.v x.v) (fun fd k=>s_for hA.1.1 (a.h fd k) (t.h fd k) (x.h fd k) fun zz=>IC h)) else none
  | _=>none)
 | .Raise ..=>some (.k xno (fun zz zz=>s_no))
 | .Assign ts v p=>(match ts with
  | [T]=>(match T,v with
   | .Name x xp,.ListComp e gs s lp=>sComp R hA c x xp e gs s lp p
   | .Tuple ts tk tp,.Tuple vs vk vp=>(R.v c (.Tuple vs vk vp)).bind fun a=>if h:swS ts vs=true∧swG c ts vs=true∧∀x∈swN c ts,c.ns[c.ns.idxOf x]?=some x∧asgB c x=true then some (.k (xswap a.v ((swN c ts).map fun x=>c.ns.idxOf x)) (fun fd k=>s_tt c hA.1.1 k h (a.h fd k)))
    else if h:swS ts vs=true∧((swN c ts).length !=ts.length)=true then (R.a c (.Tuple ts tk tp)).bind fun t=>some (.k (BO a.v t.v) (fun fd k=>s_tn c k h (a.h fd k) (t.h fd k))) else none
   | T,v=>sAsg R c T v p)
  | _=>none)
 | _=>none
noncomputable def sAll:(b:List Stmt)→TSs g A c b
 | []=>some (.k BF (fun zz zz=>s_nil))
 | s::r=>(sTop R hA c s).bind fun x=>(sAll r).bind fun y=>some (.k (xseq x.v y.v) (fun fd k=>s_cons (x.h fd k) (y.h fd k)))
noncomputable def cm:Nat→Cm g A
 | 0=>⟨fun zz zz=>none,fun zz zz=>none,fun zz zz=>none,fun zz zz zz=>none,fun zz zz=>none,fun zz zz=>none⟩
 | n+1=>⟨vTop (cm n) hA O,bTop (cm n) hA,lTop (cm n) hA O,iSrc (cm n) O,aTop (cm n) hA O,sAll (cm n) hA⟩
end
end
noncomputable section
section
variable (sc:Addr) (ns:List Int) (F:Addr→Fn)
noncomputable def x_is_op:XS:=(xseq (Ba (xandV (BJ (Bl true) (BB 0) (BH (.str ""))) (BJ (Bl false) (Bg (Bf 1 [] (Bi (BB 0)) (BE 0) (DL (xor (xtb (xbm 2 Hh (BB 0) [])) (xtb (BJ insA (BB 0) (BH (.str "()[]{},:"))))) (BY (BB 0))))) (Bg (Bj []))))) BF)
noncomputable def Gs:XS:=(xseq (Ba (xandV (BJ (Bl false) (BK Bh [(BB 0)]) (BH (.int 1))) (BJ (Bl false) (xun to1A (BJ BN (BB 0) (BH (.int 0)))) (BH (.str "?"))))) BF)
noncomputable def x_parts:XS:=(xseq (BO (Bv (Bj [(BW [(BW []),(BB 0)])])) (BE 1)) (xseq (Ck (ibc enmK [(xun CF (BB 0))]) (Bw [(BE 2),(BE 3)]) (xseq (BX (xbm 0 CZ (BB 1) [(Bg (Bf 2 [2] (Bi (BK (F 91) [(BB 3)])) (Bw [(BE 0),(BE 1)]) (BY (BW [(BJ CB (BW [(BB 2)]) (BB 0)),(BB 1)]))))])) BF)) (xseq (Ba (BB 1)) BF)))
noncomputable def x_ma_b:XS:=(xseq (BO (xbm 0 opPop (BB 3) []) (Bw [(BE 4),(BE 5)])) (xseq (xif (xtb (BK (F 86) [(BB 4)])) (xseq (xif (xtb (BJ (Bl true) (xbm 1 Bt (BB 2) [(BJ BN (BB 4) (BH (.int 0))),(BB 5)]) (BB 5))) (xseq (Ba (BH .none)) BF) BF) BF) (xseq (xif (xor (xtb (BJ (Bl true) (BJ BN (BB 4) (BH (.int 0))) (BJ BN (BB 5) (BH (.int 0))))) (xtb (BJ (Bl true) (BK Bh [(BB 4)]) (BK Bh [(BB 5)])))) (xseq (Ba (BH .none)) BF) (xseq (BX (xextz (BB 3) (xun CF (BB 4)) (xun CF (BB 5)))) BF)) BF)) BF))
noncomputable def x_matched:XS:=(xseq (xswap (BW [(Bx []),(Bv (Bj [(BW [(BB 0),(BB 1)])]))]) [2,3]) (xseq (FR (xtb (BJ gtA (BK Bh [(BB 3)]) (BH (.int 0)))) (x_ma_b F)) (xseq (Ba (BB 2)) BF)))
noncomputable def x_key_of:XS:=(xseq (BO (Bg (Bf 2 [] (Bi (BK (F 91) [(BB 0)])) (Bw [(BE 0),(BE 1)]) (BY (BB 1)))) (BE 1)) (xseq (Ba (BW [(BK Bh [(BB 1)]),(BK CJ [(Bg (Bf 1 [] (Bi (BB 1)) (BE 0) (BY (BJ BN (BB 0) (BH (.int 0))))))]),(BK CJ [(Bg (Bf 1 [] (Bi (BB 1)) (BE 0) (BY (BJ Fy (BK Bh [(BB 0)]) (BH (.int 1))))))])])) BF))
noncomputable def x_Bank_init:XS:=(xseq (BO (Bv (Bj [])) (CN 207 0 (BB 0))) (xseq (BO (Bx []) (CN 207 1 (BB 0))) (xseq (BO (Bv (Bj [])) (CN 207 2 (BB 0))) (xseq (BO (Bv (Bj [])) (CN 207 3 (BB 0))) BF))))
noncomputable def x_Bank_size:XS:=(xseq (Ba (BK Bh [(xun (BM 207 0) (BB 0))])) BF)
noncomputable def x_ta_d:XS:=(xseq (BX (xbm 0 BZ (xun (BM 207 3) (BB 0)) [(BJ CB (BH (.int 1)) (BK opMax [(Bg (xcat (Bg (Bf 1 [0] (Bi (xun CF (BB 3))) (BE 0) (BY (BJ BN (xun (BM 207 3) (BB 1)) (BB 0))))) (Bg (Bj [(BH (.int 0))]))))]))])) (xseq (Ba (BJ Fy (BK Bh [(xun (BM 207 0) (BB 0))]) (BH (.int 1)))) BF))
noncomputable def x_ta_w:XS:=(xseq (BX (xbm 0 BZ (xun (BM 207 2) (BB 0)) [(BJ CB (BH (.int 1)) (BK opSum [(Bg (Bf 1 [0] (Bi (xun CF (BB 3))) (BE 0) (BY (BJ BN (xun (BM 207 2) (BB 1)) (BB 0)))))]))])) x_ta_d)
noncomputable def x_ta_n:XS:=(xseq (BO (BK Bh [(xun (BM 207 0) (BB 0))]) (De Em (xun (BM 207 1) (BB 0)) (BB 3))) (xseq (BX (xbm 0 BZ (xun (BM 207 0) (BB 0)) [(BB 3)])) x_ta_w))
noncomputable def x_ta_l:XS:=(xseq (Ck (Bi (xun CF (BB 3))) (BE 4) (xseq (xif (xnot (xchain leA ltA (BH (.int 0)) (BB 4) (BK Bh [(xun (BM 207 0) (BB 0))]))) (xseq xno BF) BF) BF)) x_ta_n)
noncomputable def x_Bank_take:XS:=(xseq (BO (BJ CB (BW [(BB 1)]) (BK CJ [(BB 2)])) (BE 3)) (xseq (xif (xtb (BJ (indA false) (BB 3) (xun (BM 207 1) (BB 0)))) (xseq (Ba (BJ CH (xun (BM 207 1) (BB 0)) (BB 3))) BF) BF) (xseq (BX (BV 207 (F 136) (BB 0) [(BB 1)])) x_ta_l)))
noncomputable def GZ:XS:=(xseq (xif (xor (xnot (xtb (BK (F 79) [(BB 1)]))) (xtb (BJ (Bl false) (BJ BN (BB 1) (BH (.int 0))) (BH (.str "?"))))) (xseq xno BF) BF) BF)
noncomputable def x_Bank_op:XS:=(xseq (Ba (BJ BN (BJ BN (xun (BM 207 0) (BB 0)) (BB 1)) (BH (.int 0)))) BF)
noncomputable def x_Bank_kids:XS:=(xseq (Ba (xun CF (BJ BN (xun (BM 207 0) (BB 0)) (BB 1)))) BF)
noncomputable def IE:XS:=(xseq (Ba (xun (Hf true) (BK (F 98) [(BB 1),(BB 0)]))) BF)
noncomputable def x_named:XS:=(xseq (xif (xtb (BJ (Bl false) (xun to1A (BJ BN (BB 0) (BH (.int 0)))) (BH (.str "?")))) (xseq (Ba (xbm 1 Bt (BB 1) [(BB 0),(BW [(GQ Z9 [(BH (.str "?")),(xun fmtA (BK Bh [(BB 1)]))])])])) BF) BF) (xseq (Ba (BJ CB (xun to1A (BB 0)) (BK CJ [(Bg (Bf 1 [1] (Bi (xun CF (BB 0))) (BE 0) (BY (BK (F 223) [(BB 0),(BB 1)]))))]))) BF))
noncomputable def DV:XS:=(xseq (BO (BB 1) (CN 264 0 (BB 0))) (xseq (BO (Bx []) (CN 264 1 (BB 0))) (xseq (BO (Bx []) (CN 264 2 (BB 0))) BF)))
noncomputable def x_co_i:XS:=(xseq (BO (BH (.bool true)) (De Em (BB 4) (BK (F 223) [(BB 6),(Bx [])]))) (xseq (BX (BV 264 (F 249) (BB 0) [(BB 4)])) BF))
noncomputable def x_co_o:XS:=(xseq (Ck (Bi (BV 264 (F 256) (BB 0) [(BV 478 (F 402) (xun (BM 264 0) (BB 0)) [(BB 1)]),(BV 478 (F 402) (xun (BM 264 0) (BB 0)) [(BB 2)]),(BB 5)])) (BE 6) (x_co_i F)) BF)
noncomputable def x_co_m:XS:=(xseq (BO (Bx []) (BE 4)) (xseq (Ck (ibc rngK [(BH (.int 1)),(BJ CB (BB 3) (BH (.int 1)))]) (BE 5) (x_co_o F)) (xseq (BO (BK (Ca (F 103)) [(BB 4)]) (BE 7)) (xseq (Ba (Bg (Bf 1 [7] (Bi (BB 7)) (BE 0) (DL (xtb (BJ (Bl false) (Bg (Bf 1 [0] (Bi (BB 1)) (BE 0) (DL (xandB (xtb (BJ (Bl true) (BB 0) (BB 1))) (xtb (BK (F 218) [(BB 0),(BB 1)]))) (BY (BB 0))))) (Bg (Bj [])))) (BY (BB 0)))))) BF))))
noncomputable def CO:XS:=(xseq (BO (BW [(Bx []),(Bx [])]) (Bw [(CN 264 1 (BB 0)),(CN 264 2 (BB 0))])) (x_co_m F))
noncomputable def EE:XS:=(xseq (xif (xtb (BJ gtA (BK Bh [(BB 1)]) (BH (.int 2000)))) (xseq xno BF) BF) BF)
noncomputable def x_sh_r:XS:=(xseq (BO (BH (.bool true)) (De Em (BB 5) (BJ CB (BW [(BJ BN (BB 6) (BH (.int 0)))]) (BB 8)))) (xseq (BX (BV 264 (F 249) (BB 0) [(BB 5)])) BF))
noncomputable def x_sh_c:XS:=(xseq (xif (xtb (BJ (Bl false) (BW [(BJ BN (BB 6) (BH (.int 0))),(BK Bh [(BB 6)])]) (BW [(BJ BN (BB 7) (BH (.int 0))),(BK Bh [(BB 7)])]))) (xseq (Ck (Bi (BV 264 (F 261) (BB 0) [(xun CF (BB 6)),(xun CF (BB 7)),(BJ Fy (BB 3) (BH (.int 1)))])) (BE 8) (x_sh_r F)) BF) BF) BF)
noncomputable def x_sh_o:XS:=(xseq (Ck (Bi (BV 478 (F 456) (xun (BM 264 0) (BB 0)) [(BB 2)])) (BE 7) (x_sh_c F)) BF)
noncomputable def EV:XS:=(xseq (BO (BW [(BB 1),(BB 2),(BB 3)]) (BE 4)) (xseq (xif (xtb (BJ (indA true) (BB 4) (xun (BM 264 1) (BB 0)))) (xseq (BO (xite (xtb (BJ (Bl false) (BB 3) (BH (.int 1)))) (Bx [((BW [(GQ Z9 [(BH (.str "?")),(xun fmtA (BB 1)),(BH (.str "/")),(xun fmtA (BB 2))])]),(BH (.bool true)))]) (Bx [])) (BE 5)) (xseq (Ck (Bi (BV 478 (F 456) (xun (BM 264 0) (BB 0)) [(BB 1)])) (BE 6) (x_sh_o F)) (xseq (BO (BK Ep [(BB 5)]) (De Em (xun (BM 264 1) (BB 0)) (BB 4))) BF))) BF) (xseq (Ba (BJ CH (xun (BM 264 1) (BB 0)) (BB 4))) BF)))
noncomputable def x_sp_i:XS:=(xseq (BX (xbm 0 CZ (BB 5) [(Bg (Bf 1 [8] (Bi (BB 7)) (BE 0) (BY (BJ CB (BW [(BB 1)]) (BB 0)))))])) (xseq (BX (BV 264 (F 249) (BB 0) [(BB 5)])) BF))
noncomputable def x_sp_b:XS:=(xseq (BO (BV 264 (F 261) (BB 0) [(xun CF (BB 1)),(xun CF (BB 2)),(BJ Fy (BB 3) (BB 6))]) (BE 7)) (xseq (xif (xtb (BJ (Bl true) (BB 7) (Bg (Bj [])))) (xseq (Ck (Bi (BV 264 (F 256) (BB 0) [(BJ BN (BB 1) (BH (.int 0))),(BJ BN (BB 2) (BH (.int 0))),(BB 6)])) (BE 8) (x_sp_i F)) BF) BF) BF))
noncomputable def EW:XS:=(xseq (xif (xtb (BJ (Bl false) (BK Bh [(BB 1)]) (BH (.int 0)))) (xseq (Ba (xite (xtb (BJ (Bl false) (BB 3) (BH (.int 0)))) (Bg (Bj [(BW [])])) (Bg (Bj [])))) BF) BF) (xseq (BO (BW [(BB 1),(BB 2),(BB 3)]) (BE 4)) (xseq (xif (xtb (BJ (indA true) (BB 4) (xun (BM 264 2) (BB 0)))) (xseq (BO (Bv (Bj [])) (BE 5)) (xseq (Ck (ibc rngK [(BH (.int 1)),(BJ CB (BJ Fy (BB 3) (BK Bh [(BB 1)])) (BH (.int 2)))]) (BE 6) (x_sp_b F)) (xseq (BO (BB 5) (De Em (xun (BM 264 2) (BB 0)) (BB 4))) BF))) BF) (xseq (Ba (BJ CH (xun (BM 264 2) (BB 0)) (BB 4))) BF))))
noncomputable def Gu:XS:=(xseq (BO (Bv (Bj [])) (CN 346 0 (BB 0))) (xseq (BO (Bv (Bj [])) (CN 346 1 (BB 0))) (xseq (BO (Bv (Bj [])) (CN 346 2 (BB 0))) BF)))
noncomputable def Gv:XS:=(xseq (BX (xbm 0 BZ (xun (BM 346 0) (BB 0)) [(BK Bh [(xun (BM 346 0) (BB 0))])])) (xseq (BX (xbm 0 BZ (xun (BM 346 1) (BB 0)) [(Bv (Bj [(BK Bh [(xun (BM 346 1) (BB 0))])]))])) (xseq (Ba (BJ Fy (BK Bh [(xun (BM 346 0) (BB 0))]) (BH (.int 1)))) BF)))
noncomputable def Gw:XS:=(xseq (Ba (BK Bh [(xun (BM 346 0) (BB 0))])) BF)
noncomputable def Gx:XS:=(xseq (FR (xtb (BJ (Bl true) (BJ BN (xun (BM 346 0) (BB 0)) (BB 1)) (BB 1))) (xseq (BO (BJ BN (xun (BM 346 0) (BB 0)) (BB 1)) (BE 1)) BF)) (xseq (Ba (BB 1)) BF))
noncomputable def Ga:XS:=(xseq (BO (BK DI [(Bg (Bj [(BV 346 (F 303) (BB 0) [(BB 1)]),(BV 346 (F 303) (BB 0) [(BB 2)])]))]) (Bw [(BE 3),(BE 4)])) (xseq (xif (xtb (BJ (Bl false) (BB 3) (BB 4))) (xseq (Ba (BH .none)) BF) BF) (xseq (BO (BB 3) (De setL (xun (BM 346 0) (BB 0)) (BB 4))) (xseq (BX (xbm 0 CZ (BJ BN (xun (BM 346 1) (BB 0)) (BB 3)) [(BJ BN (xun (BM 346 1) (BB 0)) (BB 4))])) (xseq (BX (xbm 0 BZ (xun (BM 346 2) (BB 0)) [(BW [(BB 3),(BB 4)])])) (xseq (Ba (BW [(BB 3),(BB 4)])) BF))))))
noncomputable def Fg:XS:=(xseq (Ba (BK DI [(BJ BN (xun (BM 346 1) (BB 0)) (BV 346 (F 303) (BB 0) [(BB 1)]))])) BF)
noncomputable def EF:XS:=(xseq (BO (BK (F 207) []) (CN 478 0 (BB 0))) (xseq (BO (BK (F 346) []) (CN 478 1 (BB 0))) (xseq (BO (Bv (Bj [])) (CN 478 2 (BB 0))) (xseq (BO (Bv (Bj [])) (CN 478 3 (BB 0))) (xseq (BO (Bx []) (CN 478 4 (BB 0))) (xseq (BO (Bx []) (CN 478 5 (BB 0))) (xseq (BO (Bv (Bj [])) (CN 478 6 (BB 0))) (xseq (BO (BH (.int 0)) (CN 478 7 (BB 0))) BF))))))))
noncomputable def x_Heap_size:XS:=(xseq (Ba (BV 207 (F 124) (xun (BM 478 0) (BB 0)) [])) BF)
noncomputable def x_Heap_node:XS:=(xseq (Ba (BJ CB (BW [(BV 207 (F 164) (xun (BM 478 0) (BB 0)) [(BB 1)])]) (BK CJ [(Bg (Bf 1 [0] (Bi (BV 207 (F 171) (xun (BM 478 0) (BB 0)) [(BB 1)])) (BE 0) (BY (BV 478 (F 402) (BB 1) [(BB 0)]))))]))) BF)
noncomputable def x_ha_t:XS:=(xseq (Ck (Bi (xun Dd (Bg (Bf 1 [0] (Bi (BB 2)) (BE 0) (BY (BV 478 (F 402) (BB 1) [(BB 0)])))))) (BE 4) (xseq (BX (xbm 0 BZ (BJ CH (xun (BM 478 5) (BB 0)) (BB 4)) [(BB 3)])) BF)) (xseq (BX (BV 478 (F 395) (BB 0) [(BB 3)])) (xseq (Ba (BB 3)) BF)))
noncomputable def x_Heap_add:XS:=(xseq (BO (BV 207 (F 129) (xun (BM 478 0) (BB 0)) [(BB 1),(BB 2)]) (BE 3)) (xseq (xif (xtb (BJ ltA (BB 3) (BV 346 (F 296) (xun (BM 478 1) (BB 0)) []))) (xseq (Ba (BB 3)) BF) BF) (xseq (BX (BV 346 (F 289) (xun (BM 478 1) (BB 0)) [])) (xseq (BO (Bv (Bj [])) (De Em (xun (BM 478 5) (BB 0)) (BB 3))) (x_ha_t F)))))
noncomputable def Gb:XS:=(xseq (BO (xbm 1 Bt (xun (BM 478 4) (BB 0)) [(BV 478 (F 376) (BB 0) [(BB 1)]),(BB 1)]) (BE 2)) (xseq (xif (xtb (BJ (Bl true) (BV 478 (F 402) (BB 0) [(BB 2)]) (BV 478 (F 402) (BB 0) [(BB 1)]))) (xseq (BX (BV 478 (F 423) (BB 0) [(BB 2),(BB 1),(BW [(BH (.str "like"))])])) BF) BF) BF))
noncomputable def x_Heap_find:XS:=(xseq (Ba (BV 346 (F 303) (xun (BM 478 1) (BB 0)) [(BB 1)])) BF)
noncomputable def IF:XS:=(xseq (Ba (BV 478 (F 423) (BB 0) [(BB 1),(BB 2),(BB 3)])) BF)
noncomputable def x_jo_t:XS:=(xseq (xif (xtb (xun (Hf false) (BB 4))) (xseq (Ba (BH (.bool false))) BF) BF) (xseq (BO (BB 4) (Bw [(BE 5),(BE 6)])) (xseq (BX (xbm 0 BZ (xun (BM 478 3) (BB 0)) [(BJ Fy (BK Bh [(xun (BM 478 2) (BB 0))]) (BH (.int 1)))])) (xseq (BX (xbm 0 CZ (xun (BM 478 6) (BB 0)) [(BJ CH (xun (BM 478 5) (BB 0)) (BB 6))])) (xseq (BO (Bg (xcat (BJ CH (xun (BM 478 5) (BB 0)) (BB 5)) (xbm 1 opDPop (xun (BM 478 5) (BB 0)) [(BB 6)]))) (De Em (xun (BM 478 5) (BB 0)) (BB 5))) (xseq (Ba (BH (.bool true))) BF))))))
noncomputable def x_Heap_join:XS:=(xseq (BX (xbm 0 BZ (xun (BM 478 2) (BB 0)) [(BW [(BB 1),(BB 2),(BB 3)])])) (xseq (BO (BV 346 (F 310) (xun (BM 478 1) (BB 0)) [(BB 1),(BB 2)]) (BE 4)) x_jo_t))
noncomputable def Gy:XS:=(xseq (FR (xtb (BJ gtA (BK Bh [(xun (BM 478 6) (BB 0))]) (BH (.int 0)))) (xseq (BX (BV 478 (F 395) (BB 0) [(xbm 0 opPop (xun (BM 478 6) (BB 0)) [])])) BF)) BF)
noncomputable def Gc:XS:=(xseq (Ba (BV 346 (F 317) (xun (BM 478 1) (BB 0)) [(BB 1)])) BF)
noncomputable def GB:XS:=(xseq (Ba (xun Dd (Bg (Bf 1 [0] (Bi (BV 478 (F 451) (BB 0) [(BB 1)])) (BE 0) (BY (BV 478 (F 376) (BB 1) [(BB 0)])))))) BF)
noncomputable def x_law_next:XS:=(xseq (BO (BJ CH (BB 0) (BH (.str "at"))) (BE 2)) (xseq (BO (BJ CB (BB 2) (BH (.int 1))) (De Em (BB 0) (BH (.str "at")))) (xseq (Ba (BJ modA (xite (xtb (BJ ltA (BB 2) (BK Bh [(BJ CH (BB 0) (BH (.str "row")))]))) (BJ BN (BJ CH (BB 0) (BH (.str "row"))) (BB 2)) (BJ CB (BJ fdivA (BJ CB (BJ mulA (BJ mulA (BH (.int 7)) (BB 2)) (BB 2)) (BJ mulA (BH (.int 9)) (BB 2))) (BH (.int 2))) (BH (.int 4)))) (BB 1))) BF)))
noncomputable def x_law_added:XS:=(xseq (BX (BV 478 (F 381) (BB 0) [(BJ BN (BB 2) (BH (.int 0))),(xun CF (BB 2))])) (xseq (xif (xtb (BJ (inlA true) (BB 2) (BB 1))) (xseq (BX (xbm 0 BZ (BB 1) [(BB 2)])) BF) BF) (xseq (Ba (xbm 0 Hg (BB 1) [(BB 2)])) BF)))
noncomputable def x_law_lots:XS:=(xseq (BO (BW [(Bg (xbl Er [(BK Bh [(BB 0)])])),(Bx []),(Bg (xcat (Bg (Bj [(BW [(BH (.int 0)),(BH (.int 0))])])) (Bg (xbl Hj [(BB 1)]))))]) (Bw [(BE 2),(BE 3),(BE 4)])) (xseq (FR (xtb (BJ (Bl true) (BB 4) (Bg (Bj [])))) (xseq (Ck (Bi (BB 4)) (Bw [(BE 5),(BE 6)]) (xseq (BO (BK DI [(Bg (Bj [(BJ BN (BB 2) (BB 5)),(BJ BN (BB 2) (BB 6))]))]) (Bw [(BE 7),(BE 8)])) (xseq (BO (Bg (Bf 1 [8,7] (Bi (BB 2)) (BE 0) (BY (xite (xtb (BJ (Bl false) (BB 0) (BB 1))) (BB 2) (BB 0))))) (BE 2)) BF))) (xseq (xswap (BW [(Bx []),(Bv (Bj []))]) [3,4]) (xseq (Ck (ibc enmK [(BB 0)]) (Bw [(BE 9),(BE 10)]) (xseq (BO (xbm 1 Bt (BB 3) [(BJ CB (BW [(BJ BN (BB 10) (BH (.int 0)))]) (BK CJ [(Bg (Bf 1 [2] (Bi (xun CF (BB 10))) (BE 0) (BY (BJ BN (BB 1) (BB 0)))))])),(BB 9)]) (BE 11)) (xseq (xif (xtb (BJ (Bl true) (BJ BN (BB 2) (BB 11)) (BJ BN (BB 2) (BB 9)))) (xseq (BX (xbm 0 BZ (BB 4) [(BW [(BB 11),(BB 9)])])) BF) BF) BF))) BF)))) (xseq (BO (Bx []) (BE 12)) (xseq (Ck (Bi (BB 3)) (BE 10) (xseq (BX (xbm 0 BZ (xbm 1 Bt (BB 12) [(BJ BN (BB 2) (BJ CH (BB 3) (BB 10))),(Bv (Bj []))]) [(BB 10)])) BF)) (xseq (Ba (BW [(BB 2),(BB 12)])) BF)))))
noncomputable def x_ss_r:XS:=(xseq (BO (Bg (Bf 2 [0,7,8] (Bi (BB 6)) (BE 0) (Hl (Bi (BK (F 506) [(BB 2),(BB 3),(BB 4)])) (BE 1) (BY (BJ CB (BB 0) (BW [(BB 1)])))))) (BE 6)) BF)
noncomputable def x_ss_c:XS:=(xseq (xif (xtb (BJ (Bl false) (BW [(BJ BN (BB 4) (BH (.int 0))),(BK Bh [(BB 4)])]) (BW [(BJ BN (BB 5) (BH (.int 0))),(BK Bh [(BB 5)])]))) (xseq (BO (Bg (Bj [(BW [(BJ BN (BB 4) (BH (.int 0)))])])) (BE 6)) (xseq (Ck (ibc zipK [(xun CF (BB 4)),(xun CF (BB 5))]) (Bw [(BE 7),(BE 8)]) (x_ss_r F)) (xseq (BX (xbm 0 CZ (BB 3) [(BB 6)])) BF))) BF) BF)
noncomputable def x_ss_o:XS:=(xseq (Ck (Bi (BJ CH (BB 0) (BB 2))) (BE 5) (x_ss_c F)) BF)
noncomputable def IG:XS:=(xseq (BO (Bv (Bj [(BW [(BB 1),(BB 2)])])) (BE 3)) (xseq (Ck (Bi (BJ CH (BB 0) (BB 1))) (BE 4) (x_ss_o F)) (xseq (Ba (BB 3)) BF)))
noncomputable def Gz:XS:=(xseq (xif (xtb (BK En [(BJ BN (BB 0) (BH (.int 0)))])) (xseq (Ba (BW [(xbm 1 Bt (BB 1) [(BB 0),(BJ CB (BH (.str "?")) (BK opStr [(BK Bh [(BB 1)])]))])])) BF) BF) (xseq (Ba (BJ CB (BW [(BJ BN (BB 0) (BH (.int 0)))]) (BK CJ [(Bg (Bf 1 [1] (Bi (xun CF (BB 0))) (BE 0) (BY (BK (F 511) [(BB 0),(BB 1)]))))]))) BF))
noncomputable def x_law_heads:XS:=(xseq (BO (Bv (Bj [(BW [(BJ BN (BB 0) (BH (.int 0))),(BJ Fy (BK Bh [(BB 0)]) (BH (.int 1)))])])) (BE 1)) (xseq (Ck (Bi (xun CF (BB 0))) (BE 2) (xseq (BX (xbm 0 CZ (BB 1) [(BK (F 518) [(BB 2)])])) BF)) (xseq (Ba (BB 1)) BF)))
noncomputable def x_law_rank:XS:=(xseq (BO (BK (F 518) [(BB 0)]) (BE 1)) (xseq (Ba (BW [(BK Bh [(BB 1)]),(Bg (Bf 2 [] (Bi (BB 1)) (Bw [(BE 0),(BE 1)]) (BY (BB 0)))),(Bg (Bf 2 [] (Bi (BB 1)) (Bw [(BE 0),(BE 1)]) (BY (BB 1))))])) BF))
noncomputable def x_cu_b:XS:=(xseq (xif (xnot (xtb (BK (F 530) [(BB 3),(BB 4),(BB 2)]))) (xseq (Ba (BH (.bool false))) BF) BF) BF)
noncomputable def FB:XS:=(xseq (xif (xtb (BJ (Bl false) (BJ BN (BJ BN (BB 1) (BH (.int 0))) (BH (.int 0))) (BH (.str "?")))) (xseq (Ba (BJ (Bl false) (xbm 1 Bt (BB 2) [(BJ BN (BB 1) (BH (.int 0))),(BB 0)]) (BB 0))) BF) BF) (xseq (xif (xor (xtb (BJ (Bl true) (BJ BN (BB 1) (BH (.int 0))) (BJ BN (BB 0) (BH (.int 0))))) (xtb (BJ (Bl true) (BK Bh [(BB 1)]) (BK Bh [(BB 0)])))) (xseq (Ba (BH (.bool false))) BF) BF) (xseq (Ck (ibc zipK [(xun CF (BB 0)),(xun CF (BB 1))]) (Bw [(BE 3),(BE 4)]) (x_cu_b F)) (xseq (Ba (BH (.bool true))) BF))))
noncomputable def x_du_b:XS:=(xseq (BO (BK (F 511) [(BB 8),(Bx [])]) (BE 9)) (xseq (xif (xtb (BJ leA (BK Bh [(BK (F 518) [(BB 9)])]) (BB 4))) (xseq (BO (BH (.bool true)) (De Em (BB 7) (BB 9))) BF) BF) BF))
noncomputable def x_du_m:XS:=(xseq (BO (Bx []) (BE 7)) (xseq (Ck (Bi (BK (F 506) [(BB 6),(BJ BN (BB 5) (BB 2)),(BJ BN (BB 5) (BB 3))])) (BE 8) (x_du_b F)) (xseq (BO (BK (Ca (F 523)) [(BB 7)]) (BE 10)) (xseq (Ba (Bg (Bf 1 [10] (Bi (BB 10)) (BE 0) (DL (xtb (BJ (Bl false) (Bg (Bf 1 [0] (Bi (BB 1)) (BE 0) (DL (xandB (xtb (BJ (Bl true) (BB 0) (BB 1))) (xtb (BK (F 530) [(BB 0),(BB 1),(Bx [])]))) (BY (BB 0))))) (Bg (Bj [])))) (BY (BB 0)))))) BF))))
noncomputable def x_law_due:XS:=(xseq (BO (BK (F 501) [(BB 0),(BB 1)]) (Bw [(BE 5),(BE 6)])) (x_du_m F))
noncomputable def Ej:XS:=(xseq (BO (BW [(BK (F 489) [(BB 0),(BH (.int 3))]),(BJ CB (BH (.int 1)) (BK (F 489) [(BB 0),(BJ Fy (BB 3) (BH (.int 1)))]))]) (Bw [(BE 4),(BE 5)])) (xseq (xif (xtb (BJ (Bl false) (BB 4) (BH (.int 0)))) (xseq (BO (Bg (Bj [(BW [(BB 5),(BJ CB (BB 3) (BB 5))])])) (BE 6)) BF) (xseq (xif (xtb (BJ (Bl false) (BB 4) (BH (.int 1)))) (xseq (BO (Bg (Bf 1 [1,2,5] (Bi (BW [(BH (.int 0)),(BB 3)])) (BE 0) (BY (BW [(BJ CB (BB 0) (BB 3)),(BK (F 496) [(BB 1),(BB 2),(BW [(BH (.str "f")),(BB 0)])])])))) (BE 6)) BF) (xseq (BO (Bg (Bj [(BW [(BB 5),(BJ CB (BB 3) (BK (F 489) [(BB 0),(BB 3)]))])])) (BE 6)) BF)) BF)) (xseq (Ck (Bi (BB 6)) (Bw [(BE 7),(BE 8)]) (xseq (BX (BV 478 (F 416) (BB 1) [(BB 7),(BB 8),(BW [(BH (.str "told")),(BH (.str "t"))])])) BF)) (xseq (BX (BV 478 (F 430) (BB 1) [])) (xseq (Ba (BB 6)) BF)))))
noncomputable def x_l12:XS:=(xseq (Ba (BJ (Bl false) (BV 478 (F 371) (BB 2) []) (BK Bh [(BB 3)]))) BF)
noncomputable def x_l11:XS:=(xseq (xif (xtb (BJ (Bl true) (BV 264 (F 242) (BB 11) [(BB 14),(BB 15),(BB 12)]) (BK (F 535) [(BB 3),(BB 13),(BB 14),(BB 15),(BB 12)]))) (xseq (Ba (BH (.bool false))) BF) BF) (x_l12 F))
noncomputable def x_l10:XS:=(xseq (BO (xite (xtb (BJ (Bl false) (BK (F 489) [(BB 1),(BH (.int 2))]) (BH (.int 0)))) (BB 8) (xun rev2A (BB 8))) (Bw [(BE 14),(BE 15)])) (x_l11 F))
noncomputable def x_l9:XS:=(xseq (xswap (BW [(BK (F 540) [(BB 1),(BB 2),(BB 3),(BB 4)]),(BJ CB (BB 4) (BK (F 489) [(BB 1),(BH (.int 4))]))]) [13,12]) (x_l10 F))
noncomputable def x_l8:XS:=(xseq (xif (xtb (BJ (Bl true) (BV 264 (F 242) (BB 11) [(BJ BN (BB 8) (BH (.int 0))),(BJ BN (BB 8) (BH (.int 1))),(BB 12)]) (BK (F 535) [(BB 3),(Bg (Bj [])),(BJ BN (BB 8) (BH (.int 0))),(BJ BN (BB 8) (BH (.int 1))),(BB 12)]))) (xseq (Ba (BH (.bool false))) BF) BF) (x_l9 F))
noncomputable def x_l7:XS:=(xseq (xswap (BW [(BK (F 264) [(BB 2)]),(BJ CB (BJ CB (BB 4) (BH (.int 1))) (BK (F 489) [(BB 1),(BH (.int 3))]))]) [11,12]) (x_l8 F))
noncomputable def x_l6:XS:=(xseq (Ck (Bi (BW [(BH (.int 0)),(BB 4)])) (BE 5) (xseq (BO (Bv (Bf 1 [5] (Bi (BB 7)) (BE 0) (BY (BJ CB (BB 1) (BB 0))))) (BE 10)) (xseq (BO (BK (F 496) [(BB 2),(BB 3),(BW [(BH (.str "f")),(BJ BN (BB 10) (BB 9))])]) (De setL (BB 10) (BB 9))) (xseq (BX (xbm 0 BZ (BB 8) [(BK (F 496) [(BB 2),(BB 3),(BJ CB (BW [(BH (.str "w"))]) (BK CJ [(BB 10)]))])])) BF)))) (x_l7 F))
noncomputable def x_l5:XS:=(xseq (BO (BK (F 489) [(BB 1),(BB 4)]) (BE 9)) (x_l6 F))
noncomputable def x_l4:XS:=(xseq (BO (BH (.int 0)) (De setL (BB 7) (BJ CB (BH (.int 1)) (BK (F 489) [(BB 1),(BJ Fy (BB 4) (BH (.int 1)))])))) (x_l5 F))
noncomputable def x_l3:XS:=(xseq (xswap (BW [(Bv (xbl Er [(BB 4)])),(Bv (Bj []))]) [7,8]) (x_l4 F))
noncomputable def x_l2:XS:=(xseq (Ck (Bi (BH (.str "xy"))) (BE 5) (xseq (Ck (ibc rngK [(BB 4)]) (BE 6) (xseq (BX (BK (F 496) [(BB 2),(BB 3),(BW [(BJ CB (BB 5) (BK opStr [(BB 6)]))])])) BF)) BF)) (x_l3 F))
noncomputable def x_l1:XS:=(xseq (BO (BJ CB (BH (.int 5)) (BK (F 489) [(BB 1),(BH (.int 3))])) (BE 4)) (x_l2 F))
noncomputable def x_law:XS:=(xseq (xswap (BW [(Bx [((BH (.str "row")),(Bg (Bf 1 [] (Bi (xun (scrA (.ref sc) ns) (BB 0))) (BE 0) (BY (BJ modA (BK opInt [(BB 0)]) (BH (.int 1000003))))))),((BH (.str "at")),(BH (.int 0)))]),(BK (F 478) []),(Bv (Bj []))]) [1,2,3]) (x_l1 F))
end
end
noncomputable def objAt (K:Frag) (a:Addr):Obj:=(K.lookup a).getD default
noncomputable def Cb (K:Frag) (a:Addr):FuncData:=match (objAt K a).data with
 | .func fd=>fd
 | _=>default
noncomputable def IH (K:Frag) (a:Addr):List Stmt:=match (Cb K a).body with
 | .stmts b=>b
 | _=>[]
structure Row where
 a:Addr
 me:Addr
 t:Bool
 ns:List Str
 p:Nat
 x:(Addr→Fn)→XS
noncomputable section
noncomputable def Row.fn (r:Row) (F:Addr→Fn):Fn:=match r.t with
 | true=>fnT r.ns.length r.p (r.x F)
 | false=>fnOf r.ns.length r.p (r.x F)
noncomputable def rows (sc:Addr) (ns:List Int):List Row:=[
 ⟨79,0,false,["text"],1,fun zz=>x_is_op⟩,
 ⟨86,0,false,["t"],1,fun zz=>Gs⟩,
 ⟨91,0,true,["t","found","k","kid"],1,x_parts⟩,
 ⟨98,0,false,["pattern","t","table","waiting","here","there"],2,x_matched⟩,
 ⟨103,0,false,["t","some"],1,x_key_of⟩,
 ⟨117,207,false,["self"],1,fun zz=>x_Bank_init⟩,
 ⟨124,207,false,["self"],1,fun zz=>x_Bank_size⟩,
 ⟨129,207,false,["self","op","kids","node","kid"],3,x_Bank_take⟩,
 ⟨136,207,false,["self","op"],2,GZ⟩,
 ⟨164,207,false,["self","n"],2,fun zz=>x_Bank_op⟩,
 ⟨171,207,false,["self","n"],2,fun zz=>x_Bank_kids⟩,
 ⟨218,0,true,["narrow","wide"],2,IE⟩,
 ⟨223,0,false,["pattern","names"],2,x_named⟩,
 ⟨237,264,false,["self","heap"],2,fun zz=>DV⟩,
 ⟨242,264,false,["self","a","b","most","found","size","pattern","some"],4,CO⟩,
 ⟨249,264,false,["self","found"],2,fun zz=>EE⟩,
 ⟨256,264,true,["self","a","b","size","key","found","node","other","kids"],4,EV⟩,
 ⟨261,264,true,["self","some","others","size","key","found","first","late","pattern"],4,EW⟩,
 ⟨282,346,false,["self"],1,fun zz=>Gu⟩,
 ⟨289,346,false,["self"],1,fun zz=>Gv⟩,
 ⟨296,346,false,["self"],1,fun zz=>Gw⟩,
 ⟨303,346,false,["self","a"],2,fun zz=>Gx⟩,
 ⟨310,346,false,["self","a","b","kept","gone"],3,Ga⟩,
 ⟨317,346,false,["self","a"],2,Fg⟩,
 ⟨364,478,false,["self"],1,EF⟩,
 ⟨371,478,false,["self"],1,x_Heap_size⟩,
 ⟨376,478,false,["self","n"],2,x_Heap_node⟩,
 ⟨381,478,false,["self","op","numbers","n","c"],3,x_Heap_add⟩,
 ⟨395,478,false,["self","n","other"],2,Gb⟩,
 ⟨402,478,false,["self","n"],2,x_Heap_find⟩,
 ⟨416,478,false,["self","a","b","reason"],4,IF⟩,
 ⟨423,478,false,["self","a","b","reason","merged","kept","gone"],4,x_Heap_join⟩,
 ⟨430,478,false,["self"],1,Gy⟩,
 ⟨451,478,false,["self","c"],2,Gc⟩,
 ⟨456,478,false,["self","c"],2,GB⟩,
 ⟨489,0,false,["urn","many","at"],2,fun zz=>x_law_next⟩,
 ⟨496,0,false,["heap","nodes","node"],3,x_law_added⟩,
 ⟨501,0,false,["nodes","pairs","homes","firsts","wishes","a","b","low","high","n","node","first","lots"],2,fun zz=>x_law_lots⟩,
 ⟨506,0,true,["lots","c","d","found","one","other","rows","x","y"],3,IG⟩,
 ⟨511,0,false,["shape","names"],2,Gz⟩,
 ⟨518,0,true,["pattern","found","kid"],1,x_law_heads⟩,
 ⟨523,0,false,["pattern","heads"],1,x_law_rank⟩,
 ⟨530,0,false,["narrow","wide","table","one","other"],3,FB⟩,
 ⟨535,0,true,["nodes","pairs","a","b","most","homes","lots","some","shape","pattern","row"],5,x_law_due⟩,
 ⟨540,0,false,["urn","heap","nodes","wide","way","t","pairs","a","b"],4,Ej⟩,
 ⟨545,0,false,["script","urn","heap","nodes","wide","side","k","spots","ends","place","kids","asked","most","pairs","one","other"],1,x_law sc ns⟩]
noncomputable def Phi (sc:Addr) (ns:List Int):Nat→Addr→Fn
 | 0,_=>fun zz zz zz=>False
 | n+1,a=>((rows sc ns).find? (·.a==a)).elim (cond (H7 a 207) (HE 207 (Phi sc ns n 117)) (cond (H7 a 264) (HE 264 (Phi sc ns n 237)) (cond (H7 a 346) (HE 346 (Phi sc ns n 282)) (cond (H7 a 478) (HE 478 (Phi sc ns n 364)) fun zz zz zz=>False)))) fun r=>r.fn (Phi sc ns n)
end
noncomputable def bindP (fd:FuncData) (ps:List Str):Nat→List Value→Prop
 | 0,vs=>bindArgs fd ⟨vs,[]⟩=pure (ps.zip vs)
 | n+1,vs=>∀v,bindP fd ps n (vs++[v])
theorem bind_all {fd:FuncData} {ps:List Str}:∀{vals:List Value} {vs:List Value},bindP fd ps vals.length vs→bindArgs fd ⟨vs++vals,[]⟩=pure (ps.zip (vs++vals)):=by
 intro vals
 induction vals with
 | nil=>exact fun {vs} h=>by refine wg (D8 ..) ?_;exact h
 | cons v r ih=>exact fun {vs} h=>by refine wg (T8 ..) ?_;exact ih (h v)
noncomputable def rowB (K:Frag) (r:Row):Bool:=(K.lookup r.a).isSome&&(match (objAt K r.a).data with | .func _=>true | _=>false)&&codeIn K (Cb K r.a).code (Cb K r.a).qualname&&(match (Cb K r.a).body with | .stmts _=>true | _=>false)&&(Cb K r.a).closure.isEmpty&&
 (Cb K r.a).globals==mainGlobals&&(Cb K r.a).builtins==builtinsNs&&decide (r.p≤r.ns.length)&&decide r.ns.Nodup&&(r.ns.take r.p).all (fun x=>(Cb K r.a).scope.names.lookup x==some .local || (Cb K r.a).scope.names.lookup x==some .cell)&&
 (Cb K r.a).scope.kind== .function&& !(Cb K r.a).scope.isCoroutine&& !(Cb K r.a).scope.isGenerator&&(Cq (Cb K r.a).scope.names).all fun x=>(Cb K r.a).scope.names.lookup x==some .cell
structure RowOk (g:Gl) (sc:Addr) (ns:List Int) (r:Row):Prop where
 c:rowB g.K r=true
 b:bindP (Cb g.K r.a) (r.ns.take r.p) r.p []
 x:∀{A m F} (hA:Rn A m) (O:Ok g m F sc ns),(((cm hA O 30).s ⟨r.ns,(Cb g.K r.a).scope.names,Cq (Cb g.K r.a).scope.names,r.me⟩ (IH g.K r.a)).map (·.v))=some (r.x F)
theorem b2 {a b:Bool} (h:(a&&b)=true):a=true∧b=true:=E3.mp h
theorem nb {b:Bool} (h:(!b)=true):b=false:=by
 cases b with
 | false=>rfl
 | true=>cases h
theorem row_D {g:Gl} {sc:Addr} {ns:List Int} {r:Row} (R:RowOk g sc ns r):DefOk g.K r.a (objAt g.K r.a) (Cb g.K r.a) (IH g.K r.a) (r.ns.take r.p) r.ns∧(r.ns.take r.p).length=r.p∧∀x∈Cq (Cb g.K r.a).scope.names,(Cb g.K r.a).scope.names.lookup x=some .cell:=
 have d14:=b2 R.c
 have d13:=b2 d14.1
 have d12:=b2 d13.1
 have d11:=b2 d12.1
 have d10:=b2 d11.1
 have d9:=b2 d10.1
 have d8:=b2 d9.1
 have d7:=b2 d8.1
 have d6:=b2 d7.1
 have d5:=b2 d6.1
 have d4:=b2 d5.1
 have d3:=b2 d4.1
 have d2:=b2 d3.1
 have tl:(r.ns.take r.p).length=r.p:=List.length_take_of_le (of_decide_eq_true d8.2)
 ⟨⟨by
  have c1:=d2.1
  unfold objAt
  cases e:g.K.lookup r.a with
  | none=>rw[e] at c1;cases c1
  | some o=>rfl,by
  have c2:=d2.2
  unfold Cb
  cases e:(objAt g.K r.a).data <;> first | rfl | (rw[e] at c2;cases c2),d3.2,by
  have c4:=d4.2
  unfold IH
  cases e:(Cb g.K r.a).body <;> first | rfl | (rw[e] at c4;cases c4),List.isEmpty_iff.mp d5.2,eq_of_beq d6.2,eq_of_beq d7.2,fun vals hv=>bind_all (vs:=[]) (by refine wg hv (wg tl ?_);exact R.b),by exact wg tl rfl,of_decide_eq_true d9.2,fun x hx=>(R8.mp (E0.mp d10.2 x hx)).imp eq_of_beq eq_of_beq,eq_of_beq d11.2,nb d12.2,nb d13.2⟩,tl,fun x hx=>eq_of_beq (E0.mp d14.2 x hx)⟩
theorem row_nc {g:Gl} {sc:Addr} {ns:List Int} {r:Row} {m:Nat} {F:Addr→Fn} (R:RowOk g sc ns r) (O:Ok g m F sc ns):NC g (.ref r.a) (m+1) (r.fn F):=by
 have x:=@R.x
 obtain ⟨D,tl,c14⟩:=row_D R
 have fk:∀{L},FK ⟨r.ns,(Cb g.K r.a).scope.names,Cq (Cb g.K r.a).scope.names,r.me⟩ (GV (Cb g.K r.a) r.ns L r.a):=fun {L}=>by
  have ce:∀x,(Cb g.K r.a).scope.names.lookup x=some .cell→∃a,(Ev (Cb g.K r.a) L).lookup x=some a:=fun x hx=>Option.isSome_iff_exists.mp (Dj (.inl hx))
  refine ⟨rfl,D.hk,rfl,fun x hx=>?_,ce⟩
  obtain ⟨a,ha⟩:=ce x (c14 x hx)
  exact ⟨a,ha,.tail _ (AZ.mpr ⟨_,GU ha,ha⟩)⟩
 have h:∀{A:Around} {L:Addr},Rn A m→NS g (GV (Cb g.K r.a) r.ns L r.a) A (execs (IH g.K r.a) (callEnvC (Cb g.K r.a) L r.a)) (r.x F):=fun {A L} hA=>by
  obtain ⟨y,hy,e⟩:=I9.mp (x hA O)
  exact e▸y.h _ fk
 unfold Row.fn
 cases r.t with
 | true=>
  show NC g (.ref r.a) (m+1) (fnT r.ns.length r.p (r.x F))
  have q:NC g (.ref r.a) (m+1) (fnT r.ns.length (r.ns.take r.p).length (r.x F)):=c_defT D h
  rw[tl] at q;exact @q
 | false=>
  show NC g (.ref r.a) (m+1) (fnOf r.ns.length r.p (r.x F))
  have q:NC g (.ref r.a) (m+1) (fnOf r.ns.length (r.ns.take r.p).length (r.x F)):=c_def D h
  rw[tl] at q;exact @q
noncomputable def getB (K:Frag) (C:Addr) (x:Str):Bool:=plainGet K C x&&hasDictIn K C&&(match findIn K (.ref C) x with | some attr=>noGet K attr | none=>false)
noncomputable def setB (K:Frag) (C:Addr) (x:Str):Bool:=decide (findIn K (.ref C) "__setattr__"=some (some (.builtin "object.__setattr__")))&&plainOver K C&&decide (takerIn K C x=some none)&&hasDictIn K C
noncomputable def methB (K:Frag) (C:Addr) (x:Str) (f:Addr):Bool:=plainGet K C x&&decide (findIn K (.ref C) x=some (some (.ref f)))&&isFn K (.ref f)&&keepIn K (.ref f)&&decide (x∉flA C)
noncomputable def clB (K:Frag) (C fI:Addr):Bool:=makesIn K C&&decide (findIn K (.ref C) "__init__"=some (some (.ref fI)))&&decide (typeIn K (.ref fI)=some (.type "function"))&&decide (flA C).Nodup
noncomputable def kB (K:Frag):Bool:=fnA.all (fun p=>decide (nsIn K mainGlobals p.1=some (some (.ref p.2)))&&keepIn K (.ref p.2))&&bltN.all (fun x=>decide (nsIn K mainGlobals x=some none))&&
 [207,264,346,478].all (fun C=>(flA C).all (fun x=>getB K C x&&setB K C x)&&(meA C).all fun p=>methB K C p.1 p.2)&&(clB K 207 117&&clB K 264 237&&clB K 346 282&&clB K 478 364)&&
 decide (nsIn K mainGlobals "MOST_PATTERNS"=some (some (.int 2000 438)))
structure Facts (g:Gl) (sc:Addr) (ns:List Int):Prop where
 k:kB g.K=true
 f:∀C,g.fl C=flA C
 r:∀r∈rows sc ns,RowOk g sc ns r
 sc:∃sv:List Value,g.h₀.IsList sc sv.toArray∧IntsAre sv ns∧sv.length≤4096
theorem cl_ {α:Type} {y:α} {a b c d:List α} {C:Addr} (h:y∈cond (H7 C 207) a (cond (H7 C 264) b (cond (H7 C 346) c (cond (H7 C 478) d [])))):C∈[207,264,346,478]:=by
 cases e:H7 C 207 with
 | true=>exact F6 e▸.head _
 | false=>
  rw[e] at h
  cases e:H7 C 264 with
  | true=>exact F6 e▸.tail _ (.head _)
  | false=>
   rw[e] at h
   cases e:H7 C 346 with
   | true=>exact F6 e▸.tail _ (.tail _ (.head _))
   | false=>
    rw[e] at h
    cases e:H7 C 478 with
    | true=>exact F6 e▸.tail _ (.tail _ (.tail _ (.head _)))
    | false=>rw[e] at h;cases h
theorem fl4 {C:Addr} {x:Str} (h:x∈flA C):C∈[207,264,346,478]:=cl_ h
theorem me4 {C:Addr} {p:Str×Addr} (h:p∈meA C):C∈[207,264,346,478]:=cl_ h
section
variable {g:Gl} {sc:Addr} {ns:List Int} (f:Facts g sc ns)
include f
theorem ok_of {m:Nat} {F:Addr→Fn} (h:∀a,NC g (.ref a) m (F a)):Ok g m F sc ns:=by
 have k5:=b2 f.k
 have k4:=b2 k5.1
 have k3:=b2 k4.1
 have k2:=b2 k3.1
 refine ⟨fun x a e=>have q:=b2 (E0.mp k2.1 _ (mem_of_lookup e));⟨of_decide_eq_true q.1,q.2,h a⟩,fun x hx=>of_decide_eq_true (E0.mp k2.2 x hx),fun C x hx=>?_,f.f,fun C x a e=>?_,⟨438,of_decide_eq_true k5.2⟩,f.sc⟩
 ·have q:=b2 (E0.mp (b2 (E0.mp k3.2 C (fl4 hx))).1 x hx)
  have q1:=b2 q.1
  have q0:=b2 q1.1
  have r1:=b2 q.2
  have r2:=b2 r1.1
  have r3:=b2 r2.1
  refine ⟨⟨q0.1,q0.2,?_⟩,of_decide_eq_true r3.1,r3.2,of_decide_eq_true r2.2,r1.2⟩
  have q3:=q1.2
  cases e:findIn g.K (.ref C) x with
  | none=>rw[e] at q3;cases q3
  | some v=>rw[e] at q3;exact ⟨v,rfl,q3⟩
 ·have m:=mem_of_lookup e
  have q:=b2 (E0.mp (b2 (E0.mp k3.2 C (me4 m))).2 _ m)
  have q1:=b2 q.1
  have q2:=b2 q1.1
  have q3:=b2 q2.1
  exact ⟨⟨q3.1,of_decide_eq_true q3.2,q2.2,q1.2⟩,of_decide_eq_true q.2,h a⟩
theorem II {m:Nat} {C fI:Addr} {F:Fn} (c:clB g.K C fI=true) (h:NC g (.ref fI) m F):NC g (.ref C) (m+1) (HE C F):=by
 have c1:=b2 c
 have c2:=b2 c1.1
 have c3:=b2 c2.1
 exact @c_class g m C fI F c3.1 (of_decide_eq_true c3.2) (of_decide_eq_true c2.2) (f.f C▸of_decide_eq_true c1.2) @h
theorem all_nc:∀m a,NC g (.ref a) m (Phi sc ns m a):=by
 intro m
 induction m with
 | zero=>
  intro a A s ρ hp args us K _ _ _ q
  exact False.elim q
 | succ m ih=>
  intro a
  have O:=ok_of f ih
  have c3:=b2 (b2 (b2 f.k).1).2
  have c2:=b2 c3.1
  have c1:=b2 c2.1
  show NC g (.ref a) (m+1) (((rows sc ns).find? (·.a==a)).elim _ _)
  cases e:(rows sc ns).find? (·.a==a) with
  | some r=>
   have e1:=List.find?_some e
   cases beq_iff_eq.mp e1
   exact @row_nc _ _ _ _ _ _ (f.r r (List.mem_of_find?_eq_some e)) O
  | none=>
   show NC g (.ref a) (m+1) (cond _ _ _)
   cases e:H7 a 207 with
   | true=>cases F6 e;exact @II g sc ns f m _ 117 (Phi sc ns m 117) c1.1 (ih 117)
   | false=>
    cases e:H7 a 264 with
    | true=>cases F6 e;exact @II g sc ns f m _ 237 (Phi sc ns m 237) c1.2 (ih 237)
    | false=>
     cases e:H7 a 346 with
     | true=>cases F6 e;exact @II g sc ns f m _ 282 (Phi sc ns m 282) c2.2 (ih 282)
     | false=>
      cases e:H7 a 478 with
      | true=>cases F6 e;exact @II g sc ns f m _ 364 (Phi sc ns m 364) c3.2 (ih 364)
      | false=>
       intro A s ρ hp args us K _ _ _ q
       exact False.elim q
end
noncomputable def allR (g:Gl) (sc:Addr) (ns:List Int) (l:List Row):Prop:=∀r∈l,RowOk g sc ns r
theorem allR_nil {g:Gl} {sc:Addr} {ns:List Int}:allR g sc ns []:=nofun
theorem allR_cons {g:Gl} {sc:Addr} {ns:List Int} {r:Row} {l:List Row} (h:RowOk g sc ns r) (t:allR g sc ns l):allR g sc ns (r::l):=fun zz m=>(C4.mp m).elim (fun q=>q▸h) (t _)
noncomputable def Ends:Prop:=∀(sa:Addr) (ns:List Int),ns.length≤63→∀K:KV,(∀hp,K (.bool true) hp)→Phi sa ns 67 545 [.gl (.ref sa)] [] K
section
variable {t:XT} {m:XS} {g:Hp→Prop} {N:Lc→Hp→Prop} {R:KV} {M:XM} {KC:Lc→List V→Hp→Prop} {K:List V→Hp→Prop} {c:XE Bool} {e:XE V}
theorem x_loop {I:List V→Lc→Hp→Prop} (hg:∀vs lc hp,I vs lc hp→g hp) (step:∀v vs lc hp Z,I (v::vs) lc hp→(∀lc hp,I vs lc hp→Z lc hp)→t v lc hp fun lc hp=>m lc hp Z R)
  (done:∀lc hp,I [] lc hp→N lc hp):∀vs {lc hp},I vs lc hp→xloop t m g N R vs lc hp:=by
 intro vs
 induction vs with
 | nil=>exact fun h=>⟨hg _ _ _ h,done _ _ h⟩
 | cons v vs ih=>exact fun h=>⟨hg _ _ _ h,step v vs _ _ _ h fun zz zz h=>ih h⟩
theorem x_wh {I:Nat→Lc→Hp→Prop} (h0:∀lc hp,¬I 0 lc hp) (step:∀n lc hp Z,I (n+1) lc hp→(∀lc hp,I n lc hp→Z lc hp)→c lc hp fun b hp=>cnd b (m lc hp Z R) (N lc hp)):∀n {lc hp},I n lc hp→xwh c m N R n lc hp:=by
 intro n
 induction n with
 | zero=>exact fun h=>(h0 _ _ h).elim
 | succ n ih=>exact fun h=>step n _ _ _ h fun zz zz h=>ih h
theorem x_cl {I:List V→Lc→List V→Hp→Prop} (hg:∀vs lc acc hp,I vs lc acc hp→g hp) (step:∀v vs lc acc hp Z,I (v::vs) lc acc hp→(∀lc acc hp,I vs lc acc hp→Z lc acc hp)→t v lc hp fun lc hp=>M lc acc hp Z)
  (done:∀lc acc hp,I [] lc acc hp→KC lc acc hp):∀vs {lc acc hp},I vs lc acc hp→xcl t M g KC vs lc acc hp:=by
 intro vs
 induction vs with
 | nil=>exact fun h=>⟨hg _ _ _ _ h,done _ _ _ h⟩
 | cons v vs ih=>exact fun h=>⟨hg _ _ _ _ h,step v vs _ _ _ _ h fun zz zz zz h=>ih h⟩
theorem x_cmp {P:Lc→Prop} {L:V→Lc} {p:V→Bool} {f:V→V} {hp:Hp} {vs:List V} {lc:Lc} (h0:P lc) (hz:vs.length≤4096) (hg:g hp) (ht:∀v∈vs,∀lc (Z:Lc→Hp→Prop),P lc→Z (L v) hp→t v lc hp Z) (hP:∀v∈vs,P (L v))
  (hm:∀v∈vs,∀acc (Z:Lc→List V→Hp→Prop),acc.length≤4096→(p v=true→Z (L v) (acc++[f v]) hp)→(p v=false→Z (L v) acc hp)→M (L v) acc hp Z) (k:K ((vs.filter p).map f) hp):xcl t M g (fun zz acc hp=>K acc hp) vs lc [] hp:=by
 refine x_cl (I:=fun r lc acc h=>h=hp∧P lc∧∃d,vs=d++r∧acc=(d.filter p).map f) (fun zz zz zz zz h=>h.1▸hg) (fun v r lc acc h Z I hZ=>?_) (fun lc acc h I=>?_) vs ⟨rfl,h0,[],rfl,rfl⟩
 ·refine an3 I fun hh0 hP1 hh=>?_;clear I;obtain rfl:=hh0;refine BD hh fun d hh1 hh2=>?_;clear hh;obtain rfl:=hh1;obtain rfl:=hh2
  have hv:v∈d++v::r:=B8 _ (.head _)
  refine ht v hv lc _ hP1 (hm v hv _ _ ?_ (fun e=>?_) fun e=>?_)
  ·refine wg (A4 ..) ?_
   refine A3 (s9 ..) (A3 ?_ hz)
   refine wg A7 ?_;exact C0 _ _
  ·exact hZ _ _ _ ⟨rfl,hP v hv,d++[v],by refine wg (E5 ..) ?_;rfl,by refine wg (l6 ..) (wg (List.filter_cons_of_pos e) (wg G5 ?_));rfl⟩
  ·exact hZ _ _ _ ⟨rfl,hP v hv,d++[v],by refine wg (E5 ..) ?_;rfl,by exact wg (l6 ..) (wg (List.filter_cons_of_neg (by rw[e];exact D3)) (wg List.filter_nil (wg (D8 ..) rfl)))⟩
 ·refine an3 I fun hh0 zz hh=>?_;clear I;obtain rfl:=hh0;refine BD hh fun d e hh2=>?_;clear hh;obtain rfl:=hh2
  rw[D8] at e
  subst e;exact k
theorem Gd {α:Type} {l:List α}:l.filter (fun zz=>true)=l:=List.filter_eq_self.mpr fun zz zz=>rfl
theorem Dq {f:V→V} {hp:Hp} {vs:List V} {o:Option V} {r:Lc} (hz:vs.length≤4096) (hg:g hp) (he:∀v∈vs,∀Z:V→Hp→Prop,Z (f v) hp→e (some v::r) hp Z) (k:K (vs.map f) hp):xcl (BE 0) (BY e) g (fun zz acc hp=>K acc hp) vs (o::r) [] hp:=
 x_cmp (P:=fun lc=>∃o,lc=o::r) (L:=fun v=>some v::r) (p:=fun zz=>true) (f:=f) ⟨o,rfl⟩ hz hg (fun v zz lc Z w z=>w.elim fun zz e=>e▸z) (fun v zz=>⟨_,rfl⟩) (fun v hv acc Z hl z zz=>he v hv _ ⟨hl,z rfl⟩) (by refine wg Gd ?_;exact k)
theorem x_filt {p:V→Bool} {hp:Hp} {vs:List V} {o:Option V} {r:Lc} (hz:vs.length≤4096) (hg:g hp) (he:∀v∈vs,∀Z:Bool→Hp→Prop,Z (p v) hp→c (some v::r) hp Z) (k:K (vs.filter p) hp):xcl (BE 0) (DL c (BY (BB 0))) g (fun zz acc hp=>K acc hp) vs (o::r) [] hp:=
 x_cmp (P:=fun lc=>∃o,lc=o::r) (L:=fun v=>some v::r) (p:=p) (f:=id) ⟨o,rfl⟩ hz hg (fun v zz lc Z w z=>w.elim fun zz e=>e▸z) (fun v zz=>⟨_,rfl⟩) (fun v hv acc Z hl z1 z0=>he v hv _ ⟨fun h=>⟨hl,z1 h⟩,z0⟩) (by refine wg (g8 ..) ?_;exact k)
theorem IJ {f:V→V} {hp:Hp} {vs:List V} {o o':Option V} {r:Lc} (hz:vs.length≤4096) (hg:g hp) (he:∀v∈vs,∃a b,v= .tup [a,b]∧∀Z:V→Hp→Prop,Z (f v) hp→e (some a::some b::r) hp Z) (k:K (vs.map f) hp):
  xcl (Bw [BE 0,BE 1]) (BY e) g (fun zz acc hp=>K acc hp) vs (o::o'::r) [] hp:=
 x_cmp (P:=fun lc=>∃o o',lc=o::o'::r) (L:=fun v=>match v with | .tup [a,b]=>some a::some b::r | _=>[]) (p:=fun zz=>true) (f:=f) ⟨o,o',rfl⟩ hz hg (fun v hv lc Z ⟨_,_,e⟩ z=>by
   refine CU (he v hv) fun a b hh2 zz=>?_;obtain rfl:=hh2
   subst e;exact ⟨rfl,z⟩) (fun v hv=>by refine CU (he v hv) fun a b hh2 zz=>?_;obtain rfl:=hh2;exact ⟨_,_,rfl⟩) (fun v hv acc Z hl z zz=>by
   refine CU (he v hv) fun a b hh2 h=>?_;obtain rfl:=hh2
   exact h _ ⟨hl,z rfl⟩) (by refine wg Gd ?_;exact k)
end
theorem Fh {α:Type} {f:α→V} {t:XT} {m:XS} {g:Hp→Prop} {N:Lc→Hp→Prop} {R:KV} (I:List α→(Lc→Hp→Prop)→Prop) (step:∀a l Z,I l Z→I (a::l) fun lc hp=>g hp∧t (f a) lc hp fun lc hp=>m lc hp Z R) (done:I [] fun lc hp=>g hp∧N lc hp):∀l,I l (xloop t m g N R (l.map f)):=fun l=>I8 done (fun a l ih=>step a l _ ih) l
theorem x_lv {t:XT} {m:XS} {g:Hp→Prop} {N:Lc→Hp→Prop} {R:KV} (I:List V→(Lc→Hp→Prop)→Prop) (step:∀a l Z,I l Z→I (a::l) fun lc hp=>g hp∧t a lc hp fun lc hp=>m lc hp Z R) (done:I [] fun lc hp=>g hp∧N lc hp):∀l,I l (xloop t m g N R l):=fun l=>I8 done (fun a l ih=>step a l _ ih) l
theorem x_rg {t:XT} {m:XS} {g:Hp→Prop} {N:Lc→Hp→Prop} {R:KV} (I:Nat→Nat→(Lc→Hp→Prop)→Prop) (step:∀d f Z,I d (f+1) Z→I (d+1) f fun lc hp=>g hp∧t (.int ((f+1:Nat):Int)) lc hp fun lc hp=>m lc hp Z R) (done:∀f,I 0 f fun lc hp=>g hp∧N lc hp):∀d f,I d f (xloop t m g N R (EU ((f+1:Nat):Int) d)):=fun d=>Aq done (fun d ih f=>step d f _ (ih (f+1))) d
theorem x_whC {c:XE Bool} {m:XS} {N:Lc→Hp→Prop} {R:KV} (I:Nat→(Lc→Hp→Prop)→Prop) (h0:I 0 fun zz zz=>False) (step:∀n Z,I n Z→I (n+1) fun lc hp=>c lc hp fun b hp=>cnd b (m lc hp Z R) (N lc hp)):∀n,I n (xwh c m N R n):=fun n=>Aq h0 (fun n ih=>step n _ ih) n
theorem CW {m1 m2:XS} {lc:Lc} {hp:Hp} {N:Lc→Hp→Prop} {R:KV} (I:(Lc→Hp→Prop)→Prop) (h1:∀Z,I Z→m1 lc hp Z R) (h2:I fun lc hp=>m2 lc hp N R):xseq m1 m2 lc hp N R:=h1 _ h2
section
variable {k p:Nat} {m:XS} {vs:List V} {hp:Hp} {K:KV}
theorem IK {v:V} {t:Hp} (hv:V.bd hp.length v) (k:K v hp):Do hp K v (hp++t):=⟨v,hp,cutP (.inl ⟨rfl,hv⟩),k⟩
theorem IL {l:List V} {t:Hp} (hv:V.bds hp.length l) (k:K (.lst l) hp):Do hp K (.loc hp.length) (hp++ .list l::t):=⟨.lst l,hp,cutP (.inr ⟨_,l,rfl,by refine wg (CM ..) (wg (R6 (B2 _)) (wg (AR ..) ?_));rfl,rfl,B2 _,hv⟩),k⟩
theorem Bn {o:PO} {t:Hp}:Hp.f (hp++o::t) hp.length=some o:=by refine wg (CM ..) (wg (R6 (B2 _)) (wg (AR ..) ?_));rfl
theorem Cr {o o':PO} {t:Hp}:Hp.put (hp++o::t) hp.length o'=hp++o'::t:=by refine wg (Bz ..) (wg (t0 _ _ (B2 _)) (wg (AR ..) ?_));rfl
end
section
variable {hp:Hp} {a:Nat} {l r:List V} {K:KV} {v:V}
theorem pL_ {k:List V→Prop} (h:hp.f a=some (.list l)) (q:k l):pL (hp.f a) k:=by unfold pL;refine wg h ?_;exact q
theorem pD_ {b:Bool} {d:List (V×V)} {k:Bool→List (V×V)→Prop} (h:hp.f a=some (.dict b d)) (q:k b d):pD (hp.f a) k:=by unfold pD;refine wg h ?_;exact q
end
noncomputable def Tm:Nat→V→Prop
 | 0,_=>False
 | n+1,v=>∃o ks,v= .tup (.str o::ks)∧(J3 o=true∧0<o.length∧o.length≤4096)∧ks.length≤20∧∀k∈ks,Tm n k
theorem Tm.key:∀{n v},Tm n v→V.key n v=true:=by
 intro n
 induction n with
 | zero=>exact fun h=>h.elim
 | succ n ih=>
  rintro v ⟨o,ks,rfl,h1,_,h⟩
  refine E0.mpr fun x hx=>?_
  cases hx with
  | head=>cases n <;> exact h1.1
  | tail _ hx=>exact ih (h x hx)
theorem Tm.bd {n m v} (h:Tm n v):V.bd m v:=ok_bd n v h.key
noncomputable def tl (v:V):List V:=match v with
 | .tup l=>l.tail
 | _=>[]
noncomputable def BU:Nat→V→List V
 | 0,_=>[]
 | n+1,v=>v::(tl v).flatMap (BU n)
noncomputable def consP (k q:V):V:=match q with
 | .tup [.tup p,s]=>.tup [.tup (k::p),s]
 | v=>v
noncomputable def cv (e:V) (f:V→List V):List V:=match e with
 | .tup [k,x]=>(f x).map (consP k)
 | _=>[]
noncomputable def pv:Nat→V→List V
 | 0,_=>[]
 | n+1,v=>.tup [.tup [],v]::(enm (tl v)).flatMap fun e=>cv e (pv n)
noncomputable def isP (n:Nat) (q:V):Prop:=∃p s,q= .tup [.tup p,s]∧p.length<n∧(∀x∈p,∃i,x= .int i)∧∃k,Tm k s
noncomputable def sndV (q:V):V:=match q with
 | .tup [_,s]=>s
 | v=>v
theorem mem_enm {l:List V} {v:V} (h:v∈enm l):∃(i:Nat) (x:V),v= .tup [.int i,x]∧x∈l:=by
 refine ex1 (List.mem_mapIdx.mp h) fun i hh=>?_;refine ex1 hh fun hi hh1=>?_;clear hh;obtain rfl:=hh1
 exact ⟨i,_,rfl,N2 hi⟩
theorem enm_flat {β:Type} {l:List V} {F h:V→List β} (e:∀(i:Nat),∀v∈l,F (.tup [.int i,v])=h v):(enm l).flatMap F=l.flatMap h:=by
 refine wg b0 (wg b0 ?_)
 refine congrArg List.flatten (W4 (by refine wg (A4 ..) (wg (A4 ..) ?_);rewrite[enm];exact wg W8 rfl) fun i h1 h2=>?_)
 rw[A4] at h2
 refine wg (M4 ..) (wg (M4 ..) ?_)
 simp only[enm,List.getElem_mapIdx]
 exact e i _ (N2 h2)
theorem pv_ok:∀n {t},Tm n t→∀q∈pv n t,isP n q:=by
 intro n
 induction n with
 | zero=>exact fun h=>h.elim
 | succ n ih=>
  intro t ht q hq
  cases hq with
  | head=>exact ⟨[],t,rfl,L0 _,nofun,_,ht⟩
  | tail _ hq=>
   refine DJ ht fun o ks hh2 zz zz h=>?_;clear ht;obtain rfl:=hh2
   refine BD (H6.mp hq) fun e he hq=>?_
   refine CU (mem_enm he) fun i x hh2 hx=>?_;obtain rfl:=hh2
   refine BD (B5.mp (show q∈(pv n x).map (consP (.int i)) from hq)) fun q' hq' hh2=>?_;obtain rfl:=hh2
   refine DJ (ih (h x hx) q' hq') fun p s hh2 h1 h2 h3=>?_;obtain rfl:=hh2
   exact ⟨.int i::p,s,rfl,T7 h1,fun y hy=>(C4.mp hy).elim (fun e=>⟨_,e⟩) (h2 y),h3⟩
theorem IM:∀n {t},Tm n t→(pv n t).map sndV=BU n t:=by
 intro n
 induction n with
 | zero=>exact fun zz=>rfl
 | succ n ih=>
  intro t ht
  have ht':=ht
  refine DJ ht fun o ks hh2 zz zz h=>?_;clear ht;obtain rfl:=hh2
  show sndV _::((enm ks).flatMap fun e=>cv e (pv n)).map sndV=_
  rw[List.map_flatMap,enm_flat (h:=fun x=>BU n x) fun i x hx=>?_]
  ·rfl
  ·show ((pv n x).map (consP (.int i))).map sndV=_
   rw[G2,←ih (h x hx)]
   refine H4 fun q hq=>?_
   refine CU (pv_ok n (h x hx) q hq) fun p s hh2 zz=>?_;obtain rfl:=hh2
   rfl
theorem GH:∀n {t},Tm n t→∀s∈BU n t,∃k,k≤n∧Tm k s:=by
 intro n
 induction n with
 | zero=>exact fun zz zz h=>nomatch h
 | succ n ih=>
  intro t ht s hs
  cases hs with
  | head=>exact ⟨_,B2 _,ht⟩
  | tail _ hs=>
   refine DJ ht fun o ks hh2 zz zz h=>?_;clear ht;obtain rfl:=hh2
   refine BD (H6.mp hs) fun x hx hs=>?_
   refine BD (ih (h x hx) s hs) fun k h1 h2=>?_
   exact ⟨k,E7 h1,h2⟩
theorem isP.bd {n m:Nat} {q:V} (h:isP n q):V.bd m q:=by
 refine DJ h fun p s hh2 zz h2 hh=>?_;clear h;obtain rfl:=hh2;refine ex1 hh fun k h3=>?_;clear hh
 exact ⟨Dx fun x hx=>by refine ex1 (h2 x hx) fun i hh1=>?_;obtain rfl:=hh1;trivial,h3.bd,trivial⟩
theorem EQ {α β:Type} {l d r:List α} {x:α} {f:α→List β} {n:Nat} (e:l=d++x::r) (h:(l.flatMap f).length≤n):(d.flatMap f).length+(f x).length≤n:=by
 subst e
 rw[Z8,M6,A7,A7] at h
 exact A3 (B7 (C0 _ _) _) h
section
variable {sc:Addr} {ns:List Int}
theorem y_parts:∀n {m t},Tm n t→n≤m∧n≤100→(BU n t).length≤4000→∀{hp:Hp} {K:KV},K (.lst (pv n t)) hp→Phi sc ns m 91 [t] hp K:=by
 intro n
 induction n with
 | zero=>exact fun h=>h.elim
 | succ n ih=>
  intro m t ht hm hz hp K k
  obtain ⟨m,rfl⟩:∃k,m=k+1:=⟨m - 1,pm1 hm.1⟩
  have hm2:=hm.2
  have hm1:=D6 hm.1
  have hpv:=pv_ok _ ht
  have ht0:=ht
  rw[←IM _ ht,A4] at hz
  refine DJ ht fun o ks hh2 h1 h2 h=>?_;clear ht;obtain rfl:=hh2
  have hz:((enm ks).flatMap fun e=>cv e (pv n)).length+1≤4000:=hz
  refine A0 rfl (A0 (A3 h2 (by decide)) ?_)
  refine x_loop (I:=fun r lc h=>∃d a b,enm ks=d++r∧lc=[some (.tup (.str o::ks)),some (.loc hp.length),a,b]∧h=hp++[.list (.tup [.tup [],.tup (.str o::ks)]::d.flatMap fun e=>cv e (pv n))]) (fun zz zz zz zz=>trivial) (fun v r lc h1 Z I hZ=>?_) (fun lc h1 I=>?_) _ ⟨[],none,none,rfl,rfl,rfl⟩
  ·refine Dw I fun d a b e hh4 hh5=>?_;clear I;obtain rfl:=hh4;obtain rfl:=hh5
   refine CU (mem_enm (e▸B8 _ (.head _))) fun i x hh2 hx=>?_;obtain rfl:=hh2
   have hl:=EQ e (E8 hz)
   have hl':(pv n x).length≤4000:=by
    have:(cv (.tup [.int i,x]) (pv n)).length=(pv n x).length:=A4 _
    (refine wh this ?_;exact up (A3 (D5 _ _) hl) rfl)
   refine A0 rfl (A0 (pL_ Bn trivial) (ih (h x hx) ⟨hm1,E8 hm2⟩ (by refine wh (IM _ (h x hx)) (wg (A4 ..) ?_);exact hl') ?_))
   refine IJ (f:=consP (.int i)) (A3 hl' (by decide)) trivial (fun q hq=>?_) ?_
   ·refine CE (pv_ok n (h x hx) q hq) fun p s hh2 q1 zz=>?_;obtain rfl:=hh2
    exact ⟨.tup p,s,rfl,fun Z z=>A0 (show 1+p.length≤4096 from up (A3 (A3 (B3 (P7 1 _)) q1) (E8 hm2)) rfl) z⟩
   ·refine pL_ Bn (A0 ?_ ?_)
    ·show (AS _ d).length+1+((pv n x).map (consP (.int i))).length≤4096
     exact up (A3 (B3 (N5 _ 1 _)) (B1 hl)) rfl
    ·exact hZ _ _ ⟨d++[.tup [.int i,x]],_,_,by refine wg e (wg (E5 ..) ?_);rfl,rfl,by refine wg Cr (wg Z8 (wg (p9 ..) ?_));rfl⟩
  ·refine Dw I fun d a b e hh4 hh5=>?_;clear I;obtain rfl:=hh4;obtain rfl:=hh5
   rw[D8] at e
   subst e
   exact IL (Dx fun q hq=>(hpv q hq).bd) k
end
noncomputable def hd0 (v:V):V:=match v with
 | .tup (a::_)=>a
 | _=>.none
noncomputable def ar0 (v:V):V:=match v with
 | .tup l=>.int ((l.length:Int) - 1)
 | _=>.none
noncomputable def hv (s:V):V:= .tup [hd0 s,ar0 s]
noncomputable def EX (S:List V):V:= .tup [.int S.length,.tup (S.map hd0),.tup (S.map ar0)]
noncomputable def FC (S:List V):V:= .tup [.int S.length,.lst (S.map hd0),.lst (S.map ar0)]
section
variable {sc:Addr} {ns:List Int} {n m:Nat} {t:V} {hp:Hp} {K:KV}
theorem y_key (ht:Tm n t) (hm:n≤m∧n≤100) (hz:(BU n t).length≤4000) (k:K (EX (BU n t)) hp):Phi sc ns (m+1) 103 [t] hp K:=by
 have z:(BU n t).length≤4096:=A3 hz (by decide)
 refine A0 rfl (y_parts n ht hm hz (IJ (f:=sndV) (by refine wh (A4 (f:=sndV)) (wg (IM n ht) ?_);exact z) trivial (fun q hq=>?_) ?_))
 ·refine CU (pv_ok n ht q hq) fun p s hh2 zz=>?_;obtain rfl:=hh2
  exact ⟨.tup p,s,rfl,fun Z z=>z⟩
 ·refine wg (IM n ht) ?_
  refine A0 z (Dq (f:=hd0) z trivial (fun v hv Z h=>?_) (A0 (by refine wg (A4 ..) ?_;exact z) (Dq (f:=ar0) z trivial (fun v hv Z h=>?_) (A0 (by refine wg (A4 ..) ?_;exact z) k))))
  ·refine BD (GH n ht v hv) fun k zz hk=>?_
   cases k with
   | zero=>exact hk.elim
   | succ k=>
    refine DJ hk fun o ks hh2 zz h2 zz=>?_;clear hk;obtain rfl:=hh2
    exact ⟨⟨A3 (B1 h2) (by decide),H3 0⟩,h⟩
  ·refine BD (GH n ht v hv) fun k zz hk=>?_
   cases k with
   | zero=>exact hk.elim
   | succ k=>
    refine DJ hk fun o ks hh2 zz h2 zz=>?_;clear hk;obtain rfl:=hh2
    exact ⟨A3 (B1 h2) (by decide),h⟩
theorem tm_hv {k:Nat} {s:V} (h:Tm k s):∃(o:Str) (i:Int),hv s= .tup [.str o,.int i]:=by
 cases k with
 | zero=>exact h.elim
 | succ k=>
  refine CU h fun o ks hh2 zz=>?_;clear h;obtain rfl:=hh2
  exact ⟨o,_,rfl⟩
theorem y_heads:∀n {m t},Tm n t→n≤m→(BU n t).length≤4000→∀{hp:Hp} {K:KV},K (.lst ((BU n t).map hv)) hp→Phi sc ns m 518 [t] hp K:=by
 intro n
 induction n with
 | zero=>exact fun h=>h.elim
 | succ n ih=>
  intro m t ht hm hz hp K k
  obtain ⟨m,rfl⟩:∃k,m=k+1:=⟨m - 1,pm1 hm⟩
  have hs:=GH _ ht
  refine DJ ht fun o ks hh2 h1 h2 h=>?_;clear ht;obtain rfl:=hh2
  have hz:(ks.flatMap (BU n)).length+1≤4000:=hz
  have z:=A3 (B1 h2) (by decide:21≤4096)
  refine A0 rfl (A0 ⟨z,H3 0⟩ (A0 z (A0 (A3 h2 (by decide)) ?_)))
  refine x_loop (I:=fun r lc h=>∃d a,ks=d++r∧lc=[some (.tup (.str o::ks)),some (.loc hp.length),a]∧h=hp++[.list (hv (.tup (.str o::ks))::(d.flatMap (BU n)).map hv)]) (fun zz zz zz zz=>trivial) (fun x r lc h1 Z I hZ=>?_) (fun lc h1 I=>?_) _ ⟨[],none,rfl,rfl,rfl⟩
  ·refine CE I fun d a e hh3 hh4=>?_;clear I;obtain rfl:=hh3;obtain rfl:=hh4
   have hx:x∈ks:=e▸B8 _ (.head _)
   have hl:=EQ e (E8 hz)
   refine A0 (pL_ Bn trivial) (ih (h x hx) (D6 hm) (up (A3 (D5 _ _) hl) rfl) (pL_ Bn (A0 ?_ ?_)))
   ·show ((d.flatMap (BU n)).map hv).length+1+((BU n x).map hv).length≤4096
    refine wg (A4 ..) (wg (A4 ..) ?_);exact up (A3 (B3 (N5 _ 1 _)) (B1 hl)) rfl
   ·exact hZ _ _ ⟨d++[x],_,by refine wg e (wg (E5 ..) ?_);rfl,rfl,by refine wg Cr (wg Z8 (wg (p9 ..) (wg G5 ?_)));rfl⟩
  ·refine CE I fun d a e hh3 hh4=>?_;clear I;obtain rfl:=hh3;obtain rfl:=hh4
   rw[D8] at e
   subst e
   refine IL (Dx fun q hq=>?_) k
   refine BD (B5.mp (show q∈(BU (n+1) (.tup (.str o::ks))).map hv from hq)) fun s hs' hh2=>?_;obtain rfl:=hh2
   refine BD (hs s hs') fun k zz hk=>?_
   refine ex2 (tm_hv hk) fun o' i e=>?_
   refine wg e ?_;exact ⟨trivial,trivial,trivial⟩
theorem y_rank (ht:Tm n t) (hm:n≤m) (hz:(BU n t).length≤4000) (k:K (FC (BU n t)) hp):Phi sc ns (m+1) 523 [t] hp K:=by
 have z:((BU n t).map hv).length≤4096:=by refine wg (A4 ..) ?_;exact A3 hz (by decide)
 have e:∀f:V→V,((BU n t).map hv).map f=(BU n t).map fun s=>f (hv s):=fun f=>G2
 have two:∀v∈(BU n t).map hv,∃a b,v= .tup [a,b]:=fun v hv=>by refine BD (B5.mp hv) fun s zz hh2=>?_;obtain rfl:=hh2;exact ⟨_,_,rfl⟩
 refine A0 rfl (y_heads n ht hm hz (A0 z (IJ (f:=hd0) z trivial (fun v hv=>?_) (IJ (f:=sndV) z trivial (fun v hv=>?_) ?_))))
 ·refine ex2 (two v hv) fun a b hh2=>?_;obtain rfl:=hh2;exact ⟨a,b,rfl,fun Z z=>z⟩
 ·refine ex2 (two v hv) fun a b hh2=>?_;obtain rfl:=hh2;exact ⟨a,b,rfl,fun Z z=>z⟩
 ·refine wg (e ..) (wg (e ..) (wg (A4 ..) ?_));exact k
end
section
variable {l:List (V×V)} {k v:V}
theorem look_at {j:Nat} (nd:(l.map (·.1)).Nodup) (h:l[j]?=some (k,v)):BR l k=some v:=by
 unfold BR
 refine wg (GD nd h) ?_
 show l[j]?.map (·.2)=_
 refine wg h ?_;rfl
theorem Cc (nd:(l.map (·.1)).Nodup) (h:(k,v)∈l):BR l k=some v:=have ⟨_,hj⟩:=Y5 h;look_at nd hj
theorem at_no (h:k∉l.map (·.1)):at' l k=none:=at_none fun j p e=>h (H1 (f:=(·.1)) (B9 e))
theorem look_no (h:k∉l.map (·.1)):BR l k=none:=by
 unfold BR
 refine wg (at_no h) ?_;rfl
theorem Cd (h:k∉l.map (·.1)):Bc l k v=l++[(k,v)]:=by
 unfold Bc
 exact wg (at_no h) rfl
theorem at_iff (nd:(l.map (·.1)).Nodup):(at' l k).isSome=decide (k∈l.map (·.1)):=by
 by_cases h:k∈l.map (·.1)
 ·refine BD (B5.mp h) fun p hp hh2=>?_;obtain rfl:=hh2
  refine ex1 (Y5 hp) fun j hj=>?_
  refine wg (GD (p:=p.2) nd hj) (wg (decide_eq_true h) ?_);rfl
 ·refine wg (at_no h) (wg (decide_eq_false h) ?_);rfl
theorem DP {hp:Hp} {i:Nat} {o:PO} (h:hp.f i=some o):hp.put i o=hp:=by
 rw[CM] at h
 refine wg (Bz ..) ?_
 refine ex1 (B6.mp h) fun hi hh1=>?_;obtain rfl:=hh1
 exact t4 hi
end
theorem ok1 {x:Str} (h:J3 x=true):J3 (Dz x)=true:=by
 unfold J3 at h ⊢
 rw[←Array.all_toList,E0] at h ⊢
 exact fun c hc=>h c (List.mem_of_mem_take hc)
theorem item1 {x:Str} (h:0<x.length):Txt.item x 0=Dz x:=by
 refine wg (item_meets ⟨H3 0,K4.mpr h⟩) ?_
 obtain ⟨⟨l⟩⟩:=x
 cases l with
 | nil=>exact absurd h (N9 0)
 | cons a r=>rfl
noncomputable def isQ (x:Str):Bool:=decide (Dz x="?")
noncomputable def nameS (k:Nat):Str:=Z9++C7 "?"++C7 (toString (k:Int))
noncomputable def Fi (c d:Nat):Str:=Z9++C7 "?"++C7 (toString (c:Int))++C7 "/"++C7 (toString (d:Int))
noncomputable def okS (x:Str):Bool:=J3 x&&decide (0<x.length)&&decide (x.length≤100)&&decide ((⟨(x.cps.toList.take 1).toArray⟩:Str)="?")
theorem IN:∀k,k<64→okS (nameS k)=true∧C7 "?"++C7 (toString (k:Int))=nameS k∧(Z9++C7 "?").length+(C7 (toString (k:Int))).length≤100∧((C7 "?").length+(C7 (toString (k:Int))).length)≤100:=by decide+kernel
noncomputable def dec (x:Str):Nat×Nat:=
 let l:=x.cps.toList.drop 1
 ((l.takeWhile (·≠47)).foldl (fun n c=>10*n+(c - 48)) 0,((l.dropWhile (·≠47)).drop 1).foldl (fun n c=>10*n+(c - 48)) 0)
theorem EG:∀c,c<20→∀d,d<20→okS (Fi c d)=true∧dec (Fi c d)=(c,d):=by decide+kernel
theorem var_inj {c d c' d':Nat} (h1:c<20) (h2:d<20) (h3:c'<20) (h4:d'<20) (h:Fi c d=Fi c' d'):c=c'∧d=d':=by
 have a:=(EG c h1 d h2).2
 rw[h,(EG c' h3 d' h4).2] at a
 exact ⟨(congrArg Prod.fst a).symm,(congrArg Prod.snd a).symm⟩
structure OkS (x:Str):Prop where
 s:J3 x=true
 p:0<x.length
 z:x.length≤100
 q:Dz x="?"
theorem okS_ {x:Str} (h:okS x=true):OkS x:=by
 simp only[okS,T5,decide_eq_true_eq] at h
 exact ⟨h.1.1.1,h.1.1.2,h.1.2,h.2⟩
noncomputable def Sh:Nat→V→Prop
 | 0,_=>False
 | n+1,v=>(∃c d:Nat,v= .tup [.int c,.int d]∧c<20∧d<20)∨∃o ks,v= .tup (.str o::ks)∧(J3 o=true∧0<o.length∧o.length≤4096)∧isQ o=false∧ks.length≤20∧∀k∈ks,Sh n k
theorem Sh.rec' {P:Nat→V→Prop} (var:∀n (c d:Nat),c<20→d<20→P (n+1) (.tup [.int c,.int d])) (op:∀n o ks,(J3 o=true∧0<o.length∧o.length≤4096)→isQ o=false→ks.length≤20→(∀k∈ks,Sh n k)→(∀k∈ks,P n k)→P (n+1) (.tup (.str o::ks))):∀n v,Sh n v→P n v:=by
 intro n
 induction n with
 | zero=>exact fun zz h=>h.elim
 | succ n ih=>
  rintro v (⟨c,d,rfl,h1,h2⟩ | ⟨o,ks,rfl,h1,h2,h3,h⟩)
  ·exact var n c d h1 h2
  ·exact op n o ks h1 h2 h3 h fun k hk=>ih k (h k hk)
noncomputable def varV (v:V):V:=match v with
 | .tup [.int c,.int d]=>.tup [.str (Fi c.toNat d.toNat)]
 | v=>v
noncomputable def isI (v:V):Bool:=match hd0 v with
 | .int _=>true
 | _=>false
noncomputable def pt:Nat→V→V
 | 0,v=>v
 | n+1,v=>match isI v with
  | true=>varV v
  | false=>.tup (hd0 v::(tl v).map (pt n))
theorem var_tm {n:Nat} {x:Str} (h:OkS x):Tm (n+1) (.tup [.str x]):=⟨x,[],rfl,⟨h.s,h.p,A3 h.z (by decide)⟩,E2 _,nofun⟩
theorem pt_tm:∀n v,Sh n v→Tm n (pt n v):=Sh.rec' (P:=fun n v=>Tm n (pt n v)) (fun n c d h1 h2=>var_tm (okS_ (EG c h1 d h2).1)) fun n o ks h1 zz h3 zz ih=>⟨o,ks.map (pt n),rfl,h1,by refine wg (A4 ..) ?_;exact h3,fun k hk=>by refine BD (B5.mp hk) fun k' hk' hh2=>?_;obtain rfl:=hh2;exact ih k' hk'⟩
noncomputable def nmL (f:V→List V→V×List V):List V→List V→List V×List V
 | [],s=>([],s)
 | x::r,s=>((f x s).1::(nmL f r (f x s).2).1,(nmL f r (f x s).2).2)
noncomputable def nm:Nat→V→List V→V×List V
 | 0,v,s=>(v,s)
 | n+1,v,s=>match isI v with
  | true=>(.tup [.str (nameS (s.idxOf v))],if v∈s then s else s++[v])
  | false=>(.tup (hd0 v::(nmL (nm n) (tl v) s).1),(nmL (nm n) (tl v) s).2)
theorem nmL_app {f:V→List V→V×List V}:∀{l r s},nmL f (l++r) s=((nmL f l s).1++(nmL f r (nmL f l s).2).1,(nmL f r (nmL f l s).2).2):=by
 intro l
 induction l with
 | nil=>exact fun {r s}=>rfl
 | cons x l ih=>
  intro r s
  show (_::(nmL f (l++r) _).1,(nmL f (l++r) _).2)=_
  refine wg ih ?_;rfl
theorem ER {f:V→List V→V×List V}:∀{l s},(nmL f l s).1.length=l.length:=by
 intro l
 induction l with
 | nil=>exact rfl
 | cons x l ih=>exact congrArg (·+1) ih
noncomputable def tab (κ:V→V) (val:Nat→V) (s:List V):List (V×V):=s.mapIdx fun i v=>(κ v,val i)
structure Low (s:List V):Prop where
 v:∀x∈s,∃c d:Nat,x= .tup [.int c,.int d]∧c<20∧d<20
 n:s.Nodup
theorem Low.add {s:List V} (h:Low s) {c d:Nat} (h1:c<20) (h2:d<20):Low (if (V.tup [.int c,.int d])∈s then s else s++[.tup [.int c,.int d]]):=by
 split
 ·exact h
 ·rename_i hn
  exact ⟨fun x hx=>(C5.mp hx).elim (h.v x) fun m=>⟨c,d,A8.mp m,h1,h2⟩,Y6.mpr ⟨h.n,by simp,fun x hx y hy q=>hn (A8.mp hy▸q▸hx)⟩⟩
theorem nmL_low {n:Nat}:∀{ks:List V},(∀k∈ks,∀{s},Low s→Low (nm n k s).2)→∀{s},Low s→Low (nmL (nm n) ks s).2:=by
 intro ks
 induction ks with
 | nil=>exact fun zz zz h=>h
 | cons k ks ih=>exact fun H s h=>ih (fun k hk=>H k (.tail _ hk)) (H k (.head _) h)
theorem nm_low:∀n v,Sh n v→∀{s},Low s→Low (nm n v s).2:=Sh.rec' (P:=fun n v=>∀{s},Low s→Low (nm n v s).2) (fun n c d h1 h2 s h=>h.add h1 h2) fun n o ks zz zz zz zz ih s h=>nmL_low ih h
@[reducible] noncomputable def IsVar (v:V):Prop:=∃c d:Nat,v= .tup [.int c,.int d]∧c<20∧d<20
structure Kap (κ:V→V):Prop where
 k:∀v,IsVar v→V.key 8 (κ v)=true∧(κ v).kind=2
 i:∀v w,IsVar v→IsVar w→κ v=κ w→v=w
theorem kap_id:Kap id:=⟨fun v ⟨c,d,e,_⟩=>by subst e;exact ⟨rfl,rfl⟩,fun v w zz zz e=>e⟩
theorem kap_var:Kap varV:=by
 refine ⟨fun v ⟨c,d,e,h1,h2⟩=>?_,fun v w ⟨c,d,e,h1,h2⟩ ⟨c',d',e',h3,h4⟩ q=>?_⟩
 ·subst e;exact ⟨(var_tm (okS_ (EG c h1 d h2).1)).key (n:=8),rfl⟩
 ·subst e e'
  injection q with q
  injection q with q
  injection q with q
  refine an2 (var_inj h1 h2 h3 h4 q) fun hh0 hh1=>?_;obtain rfl:=hh0;obtain rfl:=hh1
  rfl
section
variable {κ:V→V} {val:Nat→V} {s:List V} {v:V} {d:Nat} {hp:Hp} {K:KV}
theorem Ge:(tab κ val s).map (·.1)=s.map κ:=W4 (by simp[tab]) fun i h1 h2=>by simp[tab]
theorem Low.nd (h:Low s) (k:Kap κ):((tab κ val s).map (·.1)).Nodup:=by
 refine wg Ge ?_
 exact R4.mpr (h.n.imp_of_mem fun a b q e=>q (k.i _ _ (h.v _ a) (h.v _ b) e))
theorem tab_set (k:Kap κ) (h:Low s) (hv:IsVar v) (hz:s.length≤4096) (hd:hp.f d=some (.dict true (tab κ val s))) (q:K (val (s.idxOf v)) (hp.put d (.dict true (tab κ val (if v∈s then s else s++[v]))))):Bt [.loc d,κ v,val s.length] hp K:=by
 have ok:Br (tab κ val s) (κ v):=⟨(k.k v hv).1,fun p hp=>by
  have m:=H1 (f:=(·.1)) hp
  rw[Ge] at m
  refine BD (B5.mp m) fun x hx e=>?_
  refine wg ((k.k v hv).2) (wh e ?_);exact (k.k x (h.v x hx)).2,by rewrite[tab];refine wg W8 ?_;exact hz⟩
 refine pD_ hd (A0 ok ?_)
 by_cases m:v∈s
 ·have hi:=Z6.mpr m
  unfold oV
  refine wg (look_at (h.nd k) (j:=s.idxOf v) (v:=val (s.idxOf v)) (by rw[tab,AD,B4 hi,Ab hi];rfl)) ?_
  rw[if_pos m,DP hd] at q;exact q
 ·have no:κ v∉(tab κ val s).map (·.1):=fun q=>by
   rw[Ge] at q
   refine BD (B5.mp q) fun x hx e=>?_
   exact m (k.i _ _ (h.v x hx) hv e▸hx)
  unfold oV
  refine wg (look_no no) (wg (Cd no) ?_)
  rw[if_neg m,List.idxOf_eq_length m,tab,List.mapIdx_concat] at q
  exact q
end
noncomputable def vz:Nat→V→Nat
 | 0,_=>0
 | n+1,v=>match isI v with
  | true=>1
  | false=>((tl v).map (vz n)).sum+1
theorem nm_len:∀n v,Sh n v→∀{s},(nm n v s).2.length≤s.length+vz n v:=Sh.rec' (P:=fun n v=>∀{s},(nm n v s).2.length≤s.length+vz n v) (fun n c d zz zz s=>by
  show (if _ then s else s++[_]).length≤s.length+1
  split
  ·exact O9 _
  ·refine wg A7 ?_;exact B2 _) fun n o ks zz zz zz zz ih s=>by
 have:∀{ks:List V},(∀k∈ks,∀{s},(nm n k s).2.length≤s.length+vz n k)→∀{s},(nmL (nm n) ks s).2.length≤s.length+(ks.map (vz n)).sum:=by
  intro ks
  induction ks with
  | nil=>exact fun _ {s}=>B2 _
  | cons k ks ih=>
   intro H s
   have h1:=H k (.head _) (s:=s)
   have h2:=ih (fun k hk=>H k (.tail _ hk)) (s:=(nm n k s).2)
   show (nmL (nm n) ks (nm n k s).2).2.length≤s.length+(vz n k+(ks.map (vz n)).sum)
   exact A3 h2 (A3 (G3 h1 _) (B3 (M2 _ _ _)))
 exact E7 (this ih)
theorem sum_part {α:Type} {l d r:List α} {x:α} {f:α→Nat} {n:Nat} (e:l=d++x::r) (h:(l.map f).sum≤n):(d.map f).sum+f x≤n:=by
 subst e
 rw[G5,List.sum_append,Q2,Au] at h
 exact A3 (B7 (C0 _ _) _) h
theorem nmL_len2 {n:Nat} {ks:List V} (h:∀k∈ks,Sh n k):∀{s},(nmL (nm n) ks s).2.length≤s.length+(ks.map (vz n)).sum:=by
 induction ks with
 | nil=>exact fun {s}=>B2 _
 | cons k ks ih=>
  intro s
  have h1:=nm_len n k (h k (.head _)) (s:=s)
  have h2:=ih (fun k hk=>h k (.tail _ hk)) (s:=(nm n k s).2)
  show (nmL (nm n) ks (nm n k s).2).2.length≤s.length+(vz n k+(ks.map (vz n)).sum)
  exact A3 h2 (A3 (G3 h1 _) (B3 (M2 _ _ _)))
section
variable {sc:Addr} {ns:List Int}
noncomputable def valL (k:Nat):V:= .str (nameS k)
noncomputable def valP (k:Nat):V:= .tup [.str (nameS k)]
theorem kids_nm {κ:V→V} {val:Nat→V} {n d:Nat} {f:V→V} {fn:Fn} {ks:List V} {s:List V} {hp:Hp} {K:List V→Hp→Prop} {o:Option V} (hk:∀k∈ks,Sh n k) (hz:ks.length≤20) (h:Low s) (hs:s.length+(ks.map (vz n)).sum≤60)
  (ih:∀k∈ks,∀{s:List V} {hp:Hp} {K:KV},Low s→s.length+vz n k≤60→hp.f d=some (.dict true (tab κ val s))→K (nm n k s).1 (hp.put d (.dict true (tab κ val (nm n k s).2)))→fn [f k,.loc d] hp K)
  (hd:hp.f d=some (.dict true (tab κ val s))) (k:K (nmL (nm n) ks s).1 (hp.put d (.dict true (tab κ val (nmL (nm n) ks s).2)))):xcl (BE 0) (BY (BK fn [BB 0,BB 1])) tt (fun zz acc hp=>K acc hp) (ks.map f) [o,some (.loc d)] [] hp:=by
 refine x_cl (I:=fun r lc acc h=>∃dn rs o,ks=dn++rs∧r=rs.map f∧lc=[o,some (.loc d)]∧acc=(nmL (nm n) dn s).1∧h=hp.put d (.dict true (tab κ val (nmL (nm n) dn s).2))) (fun zz zz zz zz zz=>trivial) (fun v r lc acc h1 Z I hZ=>?_) (fun lc acc h1 I=>?_) _ ⟨[],ks,o,rfl,rfl,rfl,rfl,(DP hd).symm⟩
 ·refine Dw I fun dn rs o e e1 hh=>?_;clear I;refine an3 hh fun hh0 hh1 hh2=>?_;clear hh;obtain rfl:=hh0;obtain rfl:=hh1;obtain rfl:=hh2
  cases rs with
  | nil=>cases e1
  | cons x rs=>
   cases e1
   have hx:x∈ks:=e▸B8 _ (.head _)
   have h1:=nmL_len2 (fun k hk'=>hk k (e▸D0 _ hk')) (ks:=dn) (s:=s)
   have h2:=sum_part (f:=vz n) (n:=(ks.map (vz n)).sum) e (B2 _)
   have h3:(nmL (nm n) dn s).1.length≤4096:=by
    refine wg ER ?_
    rw[e,A7] at hz
    (exact up (A3 (C0 _ _) hz) rfl)
   refine ih x hx (nmL_low (fun k hk'=>nm_low n k (hk k (e▸D0 _ hk'))) h) (A3 (G3 h1 _) (A3 (B3 (M2 _ _ _)) (A3 (B7 h2 _) hs))) (CG (DF hd)) (A0 h3 (hZ _ _ _ ⟨dn++[x],rs,_,by refine wg e (wg (E5 ..) ?_);rfl,rfl,rfl,by refine wg nmL_app ?_;rfl,?_⟩))
   refine wg EP (wg nmL_app ?_);rfl
 ·refine Dw I fun dn rs o e e1 hh=>?_;clear I;refine an3 hh fun hh0 hh1 hh2=>?_;clear hh;obtain rfl:=hh0;obtain rfl:=hh1;obtain rfl:=hh2
  rw[V7.mp e1.symm,D8] at e
  subst e
  exact k
theorem sh_key:∀n v,Sh n v→V.key n v=true:=Sh.rec' (P:=fun n v=>V.key n v=true) (fun n c d zz zz=>by cases n <;> rfl) fun n o ks h1 zz zz zz ih=>E0.mpr fun x hx=>by
 cases hx with
 | head=>cases n <;> exact h1.1
 | tail _ hx=>exact ih x hx
theorem len_d {b:Bool} {l:List (V×V)} {hp:Hp} {d:Nat} {k:Nat→Prop} (h:hp.f d=some (.dict b l)) (q:k l.length):pZ (hp.f d) k:=by unfold pZ;refine wg h ?_;exact q
theorem y_spelled:∀n v,Sh n v→∀{m d:Nat} {s:List V} {hp:Hp} {K:KV},n≤m→Low s→s.length+vz n v≤60→hp.f d=some (.dict true (tab id valL s))→K (nm n v s).1 (hp.put d (.dict true (tab id valL (nm n v s).2)))→Phi sc ns m 511 [v,.loc d] hp K:=by
 refine Sh.rec' (P:=fun n v=>∀{m d:Nat} {s:List V} {hp:Hp} {K:KV},n≤m→Low s→s.length+vz n v≤60→hp.f d=some (.dict true (tab id valL s))→K (nm n v s).1 (hp.put d (.dict true (tab id valL (nm n v s).2)))→Phi sc ns m 511 [v,.loc d] hp K) (fun n c c' h1 h2 m d s hp K hm hl hz hd k=>?_) (fun n o ks h1 h2 h3 h ih m d s hp K hm hl hz hd k=>?_)
 ·obtain ⟨m,rfl⟩:∃k,m=k+1:=⟨m - 1,pm1 hm⟩
  have hz:s.length+1≤60:=hz
  refine an4 (IN s.length (up hz rfl)) fun n1 n2 zz n3=>?_
  have zt:(tab id valL s).length=s.length:=W8
  refine A0 rfl (A0 ⟨A6 rfl,H3 0⟩ (A0 (fun zz=>?_) fun e=>H0 e))
  refine A0 (pD_ hd trivial) (len_d hd ?_)
  refine A0 (by refine wg zt ?_;exact up (D9 hz) rfl) ?_
  refine A0 (by refine wg zt ?_;exact ilt6 hz) (A0 ?_ ?_)
  ·refine wg zt ?_;exact A3 n3 (by decide)
  ·refine wg zt (wg n2 ?_)
   exact tab_set kap_id hl ⟨c,c',rfl,h1,h2⟩ (up (E8 hz) rfl) hd k
 ·obtain ⟨m,rfl⟩:∃k,m=k+1:=⟨m - 1,pm1 hm⟩
  have hz:s.length+((ks.map (vz n)).sum+1)≤60:=hz
  have z:=A3 (B1 h3) (by decide:21≤4096)
  have e:ks=ks.map id:=(g8 _).symm
  refine A0 rfl (A0 ⟨z,H3 0⟩ (A0 (fun e=>H0 e) fun zz=>A0 ⟨z,H3 0⟩ (A0 (A3 h3 (by decide)) ?_)))
  refine wg e ?_
  refine kids_nm (f:=id) h h3 hl (E8 hz) (fun k hk {s hp K} a1 a2 a3 a4=>ih k hk (D6 hm) a1 a2 a3 a4) hd (A0 ?_ (A0 ?_ k))
  ·refine wg ER ?_;exact A3 h3 (by decide)
  ·show 1+_≤4096
   refine wg ER ?_;exact up (B7 h3 1) rfl
end
theorem str_len {a b:Str}:(a++b).length=a.length+b.length:=Array.size_append
theorem q_true {x:Str} (h:isQ x=true):(decide (V.str ⟨(x.cps.toList.take 1).toArray⟩=V.str "?")^^false)=true:=by
 refine wg (W7 ..) ?_;exact decide_eq_true (congrArg V.str (of_decide_eq_true h))
theorem IO {x:Str} (h:isQ x=false):(decide (V.str ⟨(x.cps.toList.take 1).toArray⟩=V.str "?")^^false)=false:=by
 refine wg (W7 ..) ?_;exact decide_eq_false fun e=>of_decide_eq_false h (V.str.inj e)
theorem OkS.isQ {x:Str} (h:OkS x):isQ x=true:=decide_eq_true h.q
theorem cmp_s {x:Str} (h:J3 x=true):V.cmp 8 (.str x)=true:=h
theorem qm_ok:V.cmp 8 (.str "?")=true:=by decide+kernel
section
variable {sc:Addr} {ns:List Int}
theorem y_named:∀n v,Sh n v→∀{m d:Nat} {s:List V} {hp:Hp} {K:KV},n≤m→Low s→s.length+vz n v≤60→hp.f d=some (.dict true (tab varV valP s))→K (nm n v s).1 (hp.put d (.dict true (tab varV valP (nm n v s).2)))→Phi sc ns m 223 [pt n v,.loc d] hp K:=by
 refine Sh.rec' (P:=fun n v=>∀{m d:Nat} {s:List V} {hp:Hp} {K:KV},n≤m→Low s→s.length+vz n v≤60→hp.f d=some (.dict true (tab varV valP s))→K (nm n v s).1 (hp.put d (.dict true (tab varV valP (nm n v s).2)))→Phi sc ns m 223 [pt n v,.loc d] hp K) (fun n c c' h1 h2 m d s hp K hm hl hz hd k=>?_) (fun n o ks h1 h2 h3 h ih m d s hp K hm hl hz hd k=>?_)
 ·obtain ⟨m,rfl⟩:∃k,m=k+1:=⟨m - 1,pm1 hm⟩
  have hz:s.length+1≤60:=hz
  refine an4 (IN s.length (up hz rfl)) fun n1 n2 n3 zz=>?_
  have zt:(tab varV valP s).length=s.length:=W8
  have ok:=okS_ (EG c h1 c' h2).1
  have hq:=q_true ok.isQ
  refine A0 rfl (A0 ⟨A6 rfl,H3 0⟩ (A0 (A3 ok.z (by decide)) (A0 ⟨cmp_s (ok1 ok.s),qm_ok⟩ (A0 (fun zz=>?_) fun e=>H0 (hq.symm.trans e)))))
  refine A0 (pD_ hd trivial) (A0 (A6 rfl) (len_d hd ?_))
  refine A0 (by refine wg zt ?_;exact up (D9 hz) rfl) (A0 (by refine wg zt ?_;exact ilt6 hz) ?_)
  refine wg zt ?_
  refine A0 (by refine wg str_len ?_;exact A3 n3 (by decide)) ?_
  exact tab_set (κ:=varV) (val:=valP) (v:= .tup [.int c,.int c']) kap_var hl ⟨c,c',rfl,h1,h2⟩ (up (E8 hz) rfl) hd k
 ·obtain ⟨m,rfl⟩:∃k,m=k+1:=⟨m - 1,pm1 hm⟩
  have hz:s.length+((ks.map (vz n)).sum+1)≤60:=hz
  have zl:(ks.map (pt n)).length≤20:=by refine wg (A4 ..) ?_;exact h3
  have z:=A3 (B1 zl) (by decide:21≤4096)
  have hq:=IO h2
  refine A0 rfl (A0 ⟨z,H3 0⟩ (A0 h1.2.2 (A0 ⟨cmp_s (ok1 h1.1),qm_ok⟩ (A0 (fun e=>H0 (hq.symm.trans e)) fun zz=>A0 (A3 zl (by decide)) (A0 (A3 zl (by decide)) ?_)))))
  refine kids_nm (f:=pt n) (ks:=ks) h h3 hl (E8 hz) (fun k hk {s hp K} a1 a2 a3 a4=>ih k hk (D6 hm) a1 a2 a3 a4) hd (A0 ?_ (A0 ?_ k))
  ·refine wg ER ?_;exact A3 h3 (by decide)
  ·show 1+_≤4096
   refine wg ER ?_;exact up (B7 h3 1) rfl
end
noncomputable def opS (v:V):Str:=match hd0 v with
 | .str o=>o
 | _=>default
noncomputable def Pa:Nat→V→Prop
 | 0,_=>False
 | n+1,v=>∃o ks,v= .tup (.str o::ks)∧(J3 o=true∧0<o.length∧o.length≤4096)∧(isQ o=true→ks=[])∧ks.length≤20∧∀k∈ks,Pa n k
theorem Pa.tm:∀{n v},Pa n v→Tm n v:=by
 intro n
 induction n with
 | zero=>exact fun h=>h.elim
 | succ n ih=>exact fun x=>E9 (fun zz=>E9 fun zz w=>⟨w.1,w.2.1,w.2.2.2.1,fun k hk=>ih (w.2.2.2.2 k hk)⟩) x
theorem Pa.up:∀{n m v},Pa n v→n≤m→Pa m v:=by
 intro n
 induction n with
 | zero=>exact fun h=>h.elim
 | succ n ih=>
  rintro m v ⟨o,ks,rfl,h1,h0,h2,h⟩ hm
  obtain ⟨m,rfl⟩:∃k,m=k+1:=⟨m - 1,pm1 hm⟩
  exact ⟨o,ks,rfl,h1,h0,h2,fun k hk=>ih (h k hk) (D6 hm)⟩
theorem Pa.cmp {v} (h:Pa 7 v):V.cmp 8 v=true:=V.ok_up (b:=false) (c:=true) (fun e=>nomatch e) 7 v h.tm.key 8 (by decide)
noncomputable def Mt (σ:Str→V):Nat→V→V→Prop
 | 0,_,_=>False
 | n+1,w,t=>(isQ (opS w)=true→σ (opS w)=t)∧(isQ (opS w)=false→hd0 t=hd0 w∧(tl t).length=(tl w).length∧∀p∈(tl t).zip (tl w),Mt σ n p.2 p.1)
@[reducible] noncomputable def Tb:=List (Str×V)
noncomputable def Sat (σ:Str→V) (T:Tb):Prop:=∀p∈T,σ p.1=p.2
noncomputable def DQ (T:Tb):List (V×V):=T.map fun p=>(.str p.1,p.2)
structure Fj (T:Tb):Prop where
 n:(T.map (·.1)).Nodup
 k:∀p∈T,J3 p.1=true∧Pa 7 p.2
theorem Sat.ex {T:Tb} (h:(T.map (·.1)).Nodup):∃σ,Sat σ T:=by
 induction T with
 | nil=>exact ⟨fun zz=>.none,nofun⟩
 | cons p r ih=>
  have h:=O5.mp h
  refine ex1 (ih h.2) fun σ hσ=>?_
  refine ⟨fun x=>if x=p.1 then p.2 else σ x,fun q hq=>?_⟩
  rcases C4.mp hq with rfl | hq
  ·exact if_pos rfl
  ·exact (if_neg fun (e:q.1=p.1)=>h.1 (show p.1∈_ from e▸H1 (f:=(·.1)) hq)).trans (hσ q hq)
theorem Sat.app {σ:Str→V} {T:Tb} {x:Str} {v:V}:Sat σ (T++[(x,v)])↔Sat σ T∧σ x=v:=⟨fun h=>⟨fun p hp=>h p (D0 _ hp),h (x,v) (B8 _ (.head _))⟩,fun h p hp=>(C5.mp hp).elim (h.1 p) fun m=>by cases A8.mp m;exact h.2⟩
section
variable {T:Tb} {x:Str} {t:V} {d:Nat} {hp:Hp} {K:KV}
theorem HV:(DQ T).map (·.1)=(T.map (·.1)).map V.str:=by rewrite[DQ];refine wg G2 (wg G2 ?_);rfl
theorem set_T {C:V→Prop} {B:Bool→List (V×V)→Prop} (h:Fj T) (hz:T.length≤4096) (hx:J3 x=true) (ht:Pa 7 t) (hd:hp.f d=some (.dict true (DQ T))) (old:∀v,(x,v)∈T→Pa 7 v→C v) (new:x∉T.map (·.1)→Fj (T++[(x,t)])→Bc (DQ T) (.str x) t=DQ (T++[(x,t)])→B true (DQ T)):
  pD (hp.f d) fun b l=>Br l (.str x)∧oV (BR l (.str x)) C (B b l):=by
 have nd:((DQ T).map (·.1)).Nodup:=HV▸R4.mpr (h.n.imp fun q e=>q (V.str.inj e))
 have ok:Br (DQ T) (.str x):=⟨hx,fun p hp=>by
  refine BD (B5.mp hp) fun q zz hh2=>?_;obtain rfl:=hh2;rfl,by rewrite[DQ];refine wg (A4 ..) ?_;exact hz⟩
 refine pD_ hd (A0 ok ?_)
 unfold oV
 by_cases m:x∈T.map (·.1)
 ·refine BD (B5.mp m) fun p hp hh2=>?_;obtain rfl:=hh2
  refine wg (Cc nd (v:=p.2) (B5.mpr ⟨p,hp,rfl⟩)) ?_
  exact old p.2 hp (h.k p hp).2
 ·have no:V.str x∉(DQ T).map (·.1):=fun q=>by
   rw[HV] at q
   refine BD (B5.mp q) fun y hy e=>?_
   exact m (V.str.inj e▸hy)
  refine wg (look_no no) ?_
  refine new m ⟨?_,fun p hp=>(C5.mp hp).elim (h.k p) fun q=>by cases A8.mp q;exact ⟨hx,ht⟩⟩ ((Cd no).trans (G5 (l₁:=T) (l₂:=[(x,t)])).symm)
  refine wg G5 ?_
  exact Y6.mpr ⟨h.n,by simp,fun a ha b hb q=>m ((A8.mp hb:b=x)▸q▸ha)⟩
theorem Sat.get {σ:Str→V} {v:V} (h:Sat σ T) (m:(x,v)∈T):σ x=v:=h _ m
end
section
variable {sc:Addr} {ns:List Int}
theorem eqv_ {a b:V}:(decide (a=b)^^false)=decide (a=b):=W7 _
noncomputable def Ans (σs:(Str→V)→Prop) (T:Tb) (b:Bool) (T':Tb):Prop:=Fj T'∧(b=true→∀σ,Sat σ T'↔Sat σ T∧σs σ)∧(b=false→∀σ,Sat σ T→¬σs σ)
theorem Gf {l r:List V}:Co l r=(l.zip r).map fun p=>.tup [p.1,p.2]:=by
 rewrite[Co];refine wh List.map_uncurry_zip_eq_zipWith ?_;rfl
theorem q_true' {x:Str} (hx:0<x.length) (h:isQ x=true):(decide (V.str (Txt.item x 0)=V.str "?")^^false)=true:=by refine wg (item1 hx) ?_;exact q_true h
theorem q_false' {x:Str} (hx:0<x.length) (h:isQ x=false):(decide (V.str (Txt.item x 0)=V.str "?")^^false)=false:=by refine wg (item1 hx) ?_;exact IO h
theorem DW {p:Prop} [Decidable p] (h:(decide p^^true)=true):¬p:=fun q=>by rw[decide_eq_true q] at h;cases h
theorem Dr {p:Prop} [Decidable p] (h:(decide p^^true)=false):p:=by
 by_cases q:p
 ·exact q
 ·rw[decide_eq_false q] at h;cases h
theorem vw_T {hp:Hp} {n:Nat} {v:V} {P:V→Prop} (h:Pa n v) (q:P v):vw hp v P:=by
 cases n with
 | zero=>exact h.elim
 | succ n=>
  refine CU h fun o ks hh2 zz=>?_;clear h;obtain rfl:=hh2
  exact q
noncomputable def UnC (sc:Addr) (ns:List Int) (n m:Nat):Prop:=∀{w t:V} {T:Tb} {d:Nat} {hp:Hp} {K:KV},Pa n w→Pa 7 t→Fj T→T.length+(BU n w).length≤60→hp.f d=some (.dict true (DQ T))→
  (∀b T',Ans (fun σ=>Mt σ n w t) T b T'→T'.length≤T.length+(BU n w).length→K (.bool b) (hp.put d (.dict true (DQ T'))))→Phi sc ns m 530 [t,w,.loc d] hp K
theorem cu_in {n m M d:Nat} {ps:List (V×V)} {T:Tb} {S:(Str→V)→Prop} {v0 v1 a b:Option V} {hp:Hp} {N:Lc→Hp→Prop} {R:KV} (ih:UnC sc ns n m) (hp':∀p∈ps,Pa n p.2∧Pa 7 p.1) (hM:M≤60) (hT:Fj T) (hz:T.length+(ps.map fun p=>(BU n p.2).length).sum≤M) (hS:∀σ,(Sat σ T∧∀p∈ps,Mt σ n p.2 p.1)↔S σ) (hd:d<hp.length)
  (no:∀T',Fj T'→T'.length≤M→(∀σ,¬S σ)→R (.bool false) (hp.put d (.dict true (DQ T')))) (yes:∀T' a b,Fj T'→T'.length≤M→(∀σ,Sat σ T'↔S σ)→N [v0,v1,some (.loc d),a,b] (hp.put d (.dict true (DQ T')))):
  xloop (Bw [(BE 3),(BE 4)]) (x_cu_b (Phi sc ns m)) tt N R (ps.map fun p=>V.tup [p.1,p.2]) [v0,v1,some (.loc d),a,b] (hp.put d (.dict true (DQ T))):=by
 refine Fh (g:=tt) (fun l Q=>∀T a b,(∀p∈l,p∈ps)→Fj T→T.length+(l.map fun p=>(BU n p.2).length).sum≤M→(∀σ,(Sat σ T∧∀p∈l,Mt σ n p.2 p.1)↔S σ)→Q [v0,v1,some (.loc d),a,b] (hp.put d (.dict true (DQ T)))) (fun p l Z hZ T a b hl hT hz hS=>A0 trivial (A0 rfl ?_)) (fun T a b hl hT hz hS=>A0 trivial (yes T a b hT hz fun σ=>⟨fun s=>(hS σ).mp ⟨s,nofun⟩,fun s=>((hS σ).mpr s).1⟩)) ps T a b (fun zz h=>h) hT hz hS
 have m1:=hp' p (hl p (.head _))
 rw[Q2,Au,←M2] at hz
 have hz1:=A3 (C0 _ _) hz
 refine ih m1.1 m1.2 hT (A3 hz1 hM) (CG hd) fun b T2 A2 hz2=>?_
 refine wg EP ?_
 refine A0 (fun e=>?_) fun e=>?_
 ·have e:b=false:=by cases b <;> first | rfl | cases e
  exact no T2 A2.1 (A3 hz2 hz1) fun σ s=>A2.2.2 e σ ((hS σ).mpr s).1 (((hS σ).mpr s).2 p (.head _))
 ·have e:b=true:=by cases b <;> first | rfl | cases e
  exact hZ T2 _ _ (fun q h=>hl q (.tail _ h)) A2.1 (A3 (G3 hz2 _) hz) fun σ=>(and_congr_left fun zz=>A2.2.1 e σ).trans (and_assoc.trans ((and_congr_right fun zz=>⟨fun s q hq=>(C4.mp hq).elim (fun e=>e▸s.1) (s.2 q),fun s=>⟨s p (.head _),fun q hq=>s q (.tail _ hq)⟩⟩).trans (hS σ)))
theorem zip_sum {n:Nat} {ks ts:List V} (e:ks.length=ts.length):((ts.zip ks).map fun p=>(BU n p.2).length).sum=(ks.map fun k=>(BU n k).length).sum:=
 (congrArg List.sum (G2 (f:=Prod.snd) (g:=fun k=>(BU n k).length) (l:=ts.zip ks))).symm.trans (congrArg (fun l=>(List.map (fun k=>(BU n k).length) l).sum) (List.map_snd_zip (B3 e)))
theorem cu_var {n d:Nat} {o:Str} {t:V} {T:Tb} {hp:Hp} {K:KV} (h1:J3 o=true) (hq:isQ o=true) (ht:Pa 7 t) (hT:Fj T) (hz:T.length≤60) (hd:hp.f d=some (.dict true (DQ T))) (k:∀b T',Ans (fun σ=>Mt σ (n+1) (.tup [.str o]) t) T b T'→T'.length≤T.length+1→K (.bool b) (hp.put d (.dict true (DQ T')))):Bt [.loc d,.str o,t] hp fun v hp=>Bl false v t hp K:=by
 have mt:∀σ,Mt σ (n+1) (.tup [.str o]) t↔σ o=t:=fun σ=>⟨fun s=>s.1 hq,fun s=>⟨fun zz=>s,fun e=>H0 (hq.symm.trans e)⟩⟩
 refine set_T hT (A3 hz (by decide)) h1 ht hd (fun v hv pv=>?_) fun hn hT' ep=>?_
 ·have k:=k (decide (v=t)) T
  rw[DP hd] at k
  have k:=k ⟨hT,fun e σ=>⟨fun s=>⟨s,(mt σ).mpr ((s.get hv).trans (of_decide_eq_true e))⟩,fun s=>s.1⟩,fun e σ s q=>of_decide_eq_false e ((s.get hv).symm.trans ((mt σ).mp q))⟩ (C0 _ _)
  refine vw_T pv (vw_T ht (A0 ⟨pv.cmp,ht.cmp⟩ ?_))
  refine wg eqv_ ?_;exact k
 ·refine vw_T ht (vw_T ht (A0 ⟨ht.cmp,ht.cmp⟩ ?_))
  refine wg eqv_ (wg (decide_eq_true rfl) (wg ep ?_))
  exact k true _ ⟨hT',fun zz σ=>Sat.app.trans (and_congr_right fun zz=>(mt σ).symm),fun e=>H0 e⟩ (B3 A7)
theorem y_under:∀n {m},n≤m→n≤7→UnC sc ns n m:=by
 intro n
 induction n with
 | zero=>exact fun zz zz zz zz zz zz zz zz h=>h.elim
 | succ n ih=>
  intro m hm h7 w t T d hp K hw ht hT hz hd k
  obtain ⟨m,rfl⟩:∃k,m=k+1:=⟨m - 1,(V1 (A9 (L0 n) hm)).symm⟩
  refine DJ hw fun o ks hh2 h1 h0 hh=>?_;clear hw;obtain rfl:=hh2;refine an2 hh fun h2 h=>?_;clear hh
  have z:=A3 (B1 h2) (by decide:21≤4096)
  have cs:V.cmp 8 (.str (Txt.item o 0))=true:=by refine wg (item1 h1.2.1) ?_;exact cmp_s (ok1 h1.1)
  refine A0 rfl (A0 ⟨z,H3 0⟩ (A0 ⟨rfl,h1.2.1⟩ (A0 ⟨cs,qm_ok⟩ (A0 (fun e=>?_) fun e=>?_))))
  ·have hq:isQ o=true:=by
    cases hq:isQ o with
    | true=>rfl
    | false=>exact H0 (e.symm.trans (q_false' h1.2.1 hq))
   cases h0 hq
   exact A0 (pD_ hd trivial) (A0 ⟨z,H3 0⟩ (cu_var h1.1 hq ht hT (E8 hz) hd k))
  ·have hq:isQ o=false:=by
    cases hq:isQ o with
    | false=>rfl
    | true=>exact H0 (e.symm.trans (q_true' h1.2.1 hq))
   refine DJ ht fun o' ts hh2 h1' h0' hh=>?_;clear ht;obtain rfl:=hh2;refine an2 hh fun h2' h'=>?_;clear hh
   have z':=A3 (B1 h2') (by decide:21≤4096)
   have no:(∀σ,¬Mt σ (n+1) (.tup (.str o::ks)) (.tup (.str o'::ts)))→K (.bool false) hp:=fun hn=>by
    have k:=k false T ⟨hT,fun e=>H0 e,fun zz σ zz=>hn σ⟩ (C0 _ _)
    rwa [DP hd] at k
   refine A0 ⟨z,H3 0⟩ (A0 ⟨z',H3 0⟩ (A0 ⟨cmp_s h1.1,cmp_s h1'.1⟩ (A0 (fun e=>A0 (fun zz=>no fun σ q=>DW e (q.2 hq).1.symm) fun e=>H0 e) fun e1=>A0 z (A0 z' (A0 ⟨rfl,rfl⟩ (A0 (fun e=>no fun σ q=>DW e (congrArg (fun i:Nat=>V.int ((i+1:Nat):Int)) (q.2 hq).2.1.symm)) fun e2=>?_))))))
   have e2:ks.length=ts.length:=Q3 (L8 (V.int.inj (Dr e2)))
   have ez:(BU (n+1) (.tup (.str o::ks))).length=((ts.zip ks).map fun p=>(BU n p.2).length).sum+1:=congrArg (·+1) (i7.trans (zip_sum e2).symm)
   rw[ez] at k hz
   refine A0 (A3 h2' (by decide)) (A0 (A3 h2 (by decide)) ?_)
   show xloop _ (x_cu_b (Phi sc ns m)) tt _ _ (Co ts ks) _ _
   refine wg Gf (wh (DP hd) ?_)
   have mt:∀σ,(Sat σ T∧∀p∈ts.zip ks,Mt σ n p.2 p.1)↔(Sat σ T∧Mt σ (n+1) (.tup (.str o::ks)) (.tup (.str o'::ts))):=fun σ=>and_congr_right fun zz=>⟨fun s=>⟨fun e=>H0 (hq.symm.trans e),fun zz=>⟨(Dr e1).symm,e2.symm,s⟩⟩,fun s=>(s.2 hq).2.2⟩
   refine cu_in (ih (D6 hm) (E8 h7)) (fun p hp=>⟨h p.2 (Q4 hp).2,(h' p.1 (Q4 hp).1).up (by decide)⟩) (E8 hz) hT (B2 _) mt (DF hd) (fun T' h1 h2 h3=>?_) fun T' a b h1 h2 h3=>?_
   ·exact k false T' ⟨h1,fun e=>H0 e,fun zz σ s q=>h3 σ ⟨s,q⟩⟩ (E7 h2)
   ·exact k true T' ⟨h1,fun zz=>h3,fun e=>H0 e⟩ (E7 h2)
end
section
variable {hp:Hp} {a b c:PO}
theorem f0:Hp.f (hp++[a,b]) hp.length=some a:=Bn
theorem f1:Hp.f (hp++[a,b]) (hp.length+1)=some b:=by refine wg (CM ..) (wg (R6 (C0 _ 1)) (wg (V0 ..) ?_));rfl
theorem p0:Hp.put (hp++[a,b]) hp.length c=hp++[c,b]:=Cr
theorem p1:Hp.put (hp++[a,b]) (hp.length+1) c=hp++[a,c]:=by refine wg (Bz ..) (wg (t0 _ _ (C0 _ 1)) (wg (V0 ..) ?_));rfl
theorem DX {hp:Hp} {l:List V} {d:Nat} {k:Nat→Prop} (h:hp.f d=some (.list l)) (q:k l.length):pZ (hp.f d) k:=by unfold pZ;refine wg h ?_;exact q
theorem so_ {α:Type} {o:Option α} {x:α} {k:α→Prop} (h:o=some x) (q:k x):so o k:=by refine wg h ?_;exact q
end
section
variable {sc:Addr} {ns:List Int}
theorem Pa.q {n:Nat} {o:Str} {ks:List V} (h:Pa n (.tup (.str o::ks))) (hq:isQ o=true):ks=[]:=by
 cases n with
 | zero=>exact h.elim
 | succ n=>
  refine DJ h fun o' ks' e zz h0 zz=>?_;clear h
  cases e
  exact h0 hq
theorem y_isvar {n m:Nat} {w:V} {hp:Hp} {K:KV} (h:Pa n w) (k:K (.bool (isQ (opS w))) hp):Phi sc ns (m+1) 86 [w] hp K:=by
 have hq:=@Pa.q n
 cases n with
 | zero=>exact h.elim
 | succ n=>
  have h':=h
  refine DJ h fun o ks hh2 h1 h0 hh=>?_;clear h;obtain rfl:=hh2;refine an2 hh fun h2 zz=>?_;clear hh
  have z:=A3 (B1 h2) (by decide:21≤4096)
  refine A0 rfl (A0 z (A0 ⟨rfl,rfl⟩ (A0 (fun e=>?_) fun e=>?_)))
  ·refine A0 ⟨z,H3 0⟩ (A0 h1.2.2 (A0 ⟨cmp_s (ok1 h1.1),qm_ok⟩ ?_))
   have k:K (.bool (isQ o)) hp:=k
   cases e2:isQ o with
   | true=>refine wg (q_true e2) ?_;exact e2▸k
   | false=>refine wg (IO e2) ?_;exact e2▸k
  ·have k:K (.bool (isQ o)) hp:=k
   cases e2:isQ o with
   | true=>
    cases h0 e2
    exact H0 (e.symm.trans (eqv_.trans (decide_eq_true rfl)))
   | false=>exact e2▸k
theorem zip_comm {α β:Type}:∀{l:List α} {r:List β} {p:α×β},p∈l.zip r→(p.2,p.1)∈r.zip l:=by
 intro l
 induction l with
 | nil=>exact fun h=>nomatch h
 | cons x l ih=>
  intro r p h
  cases r with
  | nil=>cases h
  | cons y r=>
   rw[Aa] at h ⊢
   exact (C4.mp h).elim (fun e=>by refine wg e ?_;exact .head _) fun m=>.tail _ (ih m)
@[reducible] noncomputable def Wt:=List (Nat×V×V)
noncomputable def cw (W:Wt):List V:=W.reverse.map fun q=>.tup [q.2.1,q.2.2]
noncomputable def wsz (W:Wt):Nat:=(W.map fun q=>(BU q.1 q.2.1).length).sum
theorem subs_pos {n v} (h:Pa n v):0<(BU n v).length:=by
 cases n with
 | zero=>exact h.elim
 | succ n=>exact L0 _
theorem IP {q} {W:Wt}:cw (q::W)=cw W++[.tup [q.2.1,q.2.2]]:=by unfold cw;refine wg Al (wg G5 ?_);rfl
theorem wsz_app {U W:Wt}:wsz (U++W)=wsz U+wsz W:=by unfold wsz;exact wg G5 (wg List.sum_append rfl)
theorem wsz_len {W:Wt} (h:∀q∈W,Pa q.1 q.2.1∧q.1≤7∧Pa 7 q.2.2):W.length≤wsz W:=by
 induction W with
 | nil=>exact B2 _
 | cons q W ih=>
  have h1:=subs_pos (h q (.head _)).1
  have h2:=ih fun q hq=>h q (.tail _ hq)
  show W.length+1≤(BU q.1 q.2.1).length+wsz W
  exact A3 (B3 (P7 _ 1)) (U8 h1 h2)
structure Left (T:Tb) (k:Nat) (p u:V) (T':Tb) (W:Wt):Prop where
 t:Fj T'
 w:∀q∈W,Pa q.1 q.2.1∧q.1≤7∧Pa 7 q.2.2
 z:T'.length+wsz W≤T.length+(BU k p).length
 l:wsz W<(BU k p).length
 e:∀σ,(Sat σ T'∧∀q∈W,Mt σ q.1 q.2.1 q.2.2)↔(Sat σ T∧Mt σ k p u)
theorem ma_var {n:Nat} {o:Str} {u:V} {T:Tb} {l:List V} {v0 v1:Option V} {hp:Hp} {Z:Lc→Hp→Prop} {R:KV} (h1:J3 o=true) (hq:isQ o=true) (hu:Pa 7 u) (hT:Fj T) (hz:T.length≤60) (no:(∀σ,¬(Sat σ T∧Mt σ (n+1) (.tup [.str o]) u))→∀c:Hp,R .none (hp++c)) (yes:∀T',Left T (n+1) (.tup [.str o]) u T' []→Z [v0,v1,some (.loc hp.length),some (.loc (hp.length+1)),some (.tup [.str o]),some u] (hp++[.dict true (DQ T'),.list l])):
  Bt [.loc hp.length,.str o,u] (hp++[.dict true (DQ T),.list l]) fun v hp'=>Bl true v u hp' fun v hp'=>vB v fun b=>cnd b (xseq (Ba (BH .none)) BF [v0,v1,some (.loc hp.length),some (.loc (hp.length+1)),some (.tup [.str o]),some u] hp' Z R) (Z [v0,v1,some (.loc hp.length),some (.loc (hp.length+1)),some (.tup [.str o]),some u] hp'):=by
 have mt:∀σ,Mt σ (n+1) (.tup [.str o]) u↔σ o=u:=fun σ=>⟨fun s=>s.1 hq,fun s=>⟨fun zz=>s,fun e=>H0 (hq.symm.trans e)⟩⟩
 refine set_T hT (A3 hz (by decide)) h1 hu f0 (fun v hv pv=>?_) fun hn hT' ep=>?_
 ·refine vw_T pv (vw_T hu (A0 ⟨pv.cmp,hu.cmp⟩ (A0 (fun e=>no (fun σ s=>DW e ((s.1.get hv).symm.trans ((mt σ).mp s.2))) _) fun e=>yes T ⟨hT,nofun,C0 _ _,L0 _,fun σ=>⟨fun s=>⟨s.1,(mt σ).mpr ((s.1.get hv).trans (Dr e))⟩,fun s=>⟨s.1,nofun⟩⟩⟩)))
 ·refine vw_T hu (vw_T hu (A0 ⟨hu.cmp,hu.cmp⟩ (A0 (fun e=>absurd rfl (DW e)) fun zz=>?_)))
  refine wg ep (wg p0 ?_)
  exact yes _ ⟨hT',nofun,B3 A7,L0 _,fun σ=>(and_iff_left nofun).trans (Sat.app.trans (and_congr_right fun zz=>(mt σ).symm))⟩
theorem wz_zip {n:Nat} {ks ts:List V} (e:ks.length=ts.length):wsz ((ks.zip ts).map fun p=>(n,p.1,p.2)).reverse=(ks.flatMap (BU n)).length:=by
 unfold wsz
 refine wg i7 (wg List.map_reverse (wg (List.sum_reverse ..) (wg G2 ?_)))
 refine congrArg List.sum (Eq.trans (G2 (f:=Prod.fst) (g:=fun k=>(BU n k).length) (l:=ks.zip ts)).symm ?_)
 exact wg (List.map_fst_zip (B3 e)) rfl
theorem cw_app {ks ts:List V} {n:Nat} {W:Wt}:cw (((ks.zip ts).map fun p=>(n,p.1,p.2)).reverse++W)=cw W++Co ks ts:=by
 unfold cw
 refine wg List.reverse_append (wg (List.reverse_reverse ..) (wg G5 (wg G2 (wg Gf ?_))));rfl
theorem ma_b {k m:Nat} {p u:V} {T:Tb} {W:Wt} {v0 v1 a b:Option V} {hp:Hp} {Z:Lc→Hp→Prop} {R:KV} (h:Pa k p) (h7:k≤7) (hu:Pa 7 u) (hT:Fj T) (hz:T.length≤60) (hW:(cw W).length≤60) (no:(∀σ,¬(Sat σ T∧Mt σ k p u))→∀c:Hp,R .none (hp++c))
  (yes:∀T' W' a b,Left T k p u T' W'→Z [v0,v1,some (.loc hp.length),some (.loc (hp.length+1)),a,b] (hp++[.dict true (DQ T'),.list (cw (W'++W))])):
  x_ma_b (Phi sc ns (m+1)) [v0,v1,some (.loc hp.length),some (.loc (hp.length+1)),a,b] (hp++[.dict true (DQ T),.list (cw W++[.tup [p,u]])]) Z R:=by
 refine A0 (pL_ f1 trivial) (pL_ f1 (A0 ?_ (so_ List.getLast?_concat ?_)))
 ·refine wg A7 ?_;exact A3 (B1 hW) (by decide)
 refine wg List.dropLast_concat (wg p1 ?_)
 refine A0 rfl (y_isvar h (A0 (fun e=>?_) fun e=>?_))
 ·cases k with
  | zero=>exact h.elim
  | succ k=>
  refine DJ h fun o ks hh2 h1 h0 hh=>?_;clear h;obtain rfl:=hh2;refine an2 hh fun h2 zz=>?_;clear hh
  cases h0 e
  exact A0 (pD_ f0 trivial) (A0 ⟨A6 rfl,H3 0⟩ (ma_var h1.1 e hu hT hz no fun T' l=>yes T' [] _ _ l))
 ·cases k with
  | zero=>exact h.elim
  | succ k=>
  refine DJ h fun o ks hh2 h1 h0 hh=>?_;clear h;obtain rfl:=hh2;refine an2 hh fun h2 hks=>?_;clear hh
  refine DJ hu fun o' ts hh2 h1' zz hh=>?_;clear hu;obtain rfl:=hh2;refine an2 hh fun h2' hts=>?_;clear hh
  have hq:isQ o=false:=e
  have mt:∀σ,Mt σ (k+1) (.tup (.str o::ks)) (.tup (.str o'::ts))↔(V.str o'= .str o∧ts.length=ks.length∧∀p∈ts.zip ks,Mt σ k p.2 p.1):=fun σ=>⟨fun s=>s.2 hq,fun s=>⟨fun e=>H0 (hq.symm.trans e),fun zz=>s⟩⟩
  have z:=A3 (B1 h2) (by decide:21≤4096)
  have z':=A3 (B1 h2') (by decide:21≤4096)
  refine A0 ⟨z,H3 0⟩ (A0 ⟨z',H3 0⟩ (A0 ⟨cmp_s h1.1,cmp_s h1'.1⟩ (A0 (fun e=>A0 (fun zz=>no (fun σ s=>DW e ((mt σ).mp s.2).1.symm) _) fun e=>H0 e) fun e4=>A0 z (A0 z' (A0 ⟨rfl,rfl⟩ (A0 (fun e=>no (fun σ s=>DW e (congrArg (fun i:Nat=>V.int ((i+1:Nat):Int)) ((mt σ).mp s.2).2.1.symm)) _) fun e5=>?_))))))
  have e5:ks.length=ts.length:=Q3 (L8 (V.int.inj (Dr e5)))
  refine A0 (pL_ f1 trivial) (A0 (A3 h2 (by decide)) (A0 (A3 h2' (by decide)) (pL_ f1 (A0 (A3 (U8 hW h2) (by decide)) ?_))))
  refine wg p1 (wh (cw_app (n:=k)) ?_)
  have es:=wz_zip (n:=k) e5
  refine yes T _ _ _ ⟨hT,fun q hq=>?_,B7 (A3 (B3 es) (O9 _)) _,I7 (B3 es),fun σ=>and_congr_right fun s=>⟨fun a=>(mt σ).mpr ⟨(Dr e4).symm,e5.symm,fun p hp=>a (k,p.2,p.1) (u6.mpr (B5.mpr ⟨(p.2,p.1),zip_comm hp,rfl⟩))⟩,fun a q hq=>?_⟩⟩
  ·refine BD (B5.mp (u6.mp hq)) fun p hp hh2=>?_;obtain rfl:=hh2
   exact ⟨hks _ (Q4 hp).1,E8 h7,(hts _ (Q4 hp).2).up (by decide)⟩
  ·refine BD (B5.mp (u6.mp hq)) fun p hp hh2=>?_;obtain rfl:=hh2
   exact ((mt σ).mp a).2.2 (p.2,p.1) (zip_comm hp)
theorem y_matched {n m:Nat} {w t:V} {hp:Hp} {K:KV} (hw:Pa n w) (h7:n≤7) (ht:Pa 7 t) (hz:(BU n w).length≤60) (yes:(∃σ,Mt σ n w t)→∀c:Hp,K (.loc hp.length) (hp++c)) (no:(¬∃σ,Mt σ n w t)→∀c:Hp,K .none (hp++c)):Phi sc ns (m+2) 98 [w,t] hp K:=by
 refine A0 rfl (A0 rfl (Az ((BU n w).length+1) ?_))
 show xwh _ _ _ _ _ [some w,some t,some (.loc hp.length),some (.loc (hp++[PO.dict true []]).length),none,none] ((hp++[PO.dict true []])++[.list [.tup [w,t]]])
 refine wg (show (hp++[PO.dict true []]).length=hp.length+1 from A7) (wg (show (hp++[PO.dict true []])++[PO.list [.tup [w,t]]]=hp++[.dict true [],.list [.tup [w,t]]] from E5 ..) ?_)
 refine x_whC (fun k Q=>∀T W a b,Fj T→(∀q∈W,Pa q.1 q.2.1∧q.1≤7∧Pa 7 q.2.2)→T.length+wsz W≤60→(∀σ,(Sat σ T∧∀q∈W,Mt σ q.1 q.2.1 q.2.2)↔Mt σ n w t)→wsz W<k→Q [some w,some t,some (.loc hp.length),some (.loc (hp.length+1)),a,b] (hp++[.dict true (DQ T),.list (cw W)])) (fun zz zz zz zz zz zz zz zz h=>absurd h (V6 _)) (fun k Z hZ T W a b hT hW hz hE hk=>?_) _ [] [(n,w,t)] none none ⟨N4,nofun⟩ (fun q hq=>?_) (A3 (B3 (I0 _)) hz) (fun σ=>⟨fun s=>s.2 _ (.head _),fun s=>⟨nofun,fun q hq=>?_⟩⟩) (G7 _)
 ·have zc:(cw W).length≤60:=by
   unfold cw
   refine wg (A4 ..) (wg AL ?_)
   exact A3 (wsz_len hW) (A3 (D5 _ _) hz)
  refine DX f1 (A0 (A3 zc (by decide)) (A0 (fun e=>?_) fun e=>?_))
  ·cases W with
   | nil=>exact H0 e
   | cons q W=>
   have w0:=hW _ (.head _)
   refine wg IP ?_
   have zs:T.length+((BU q.1 q.2.1).length+wsz W)≤60:=hz
   rw[IP,A7] at zc
   refine ma_b w0.1 w0.2.1 w0.2.2 hT (A3 (C0 _ _) zs) (E8 zc) (fun h c=>no (fun ⟨σ,s⟩=>h σ ⟨((hE σ).mpr s).1,((hE σ).mpr s).2 _ (.head _)⟩) c) fun T' W' a b L=>hZ T' _ a b L.t (fun q hq=>(C5.mp hq).elim (L.w q) fun m=>hW q (.tail _ m)) ?_ (fun σ=>?_) ?_
   ·refine wg wsz_app (wh (M2 ..) ?_)
    exact A3 (G3 L.z _) (A3 (B3 (M2 ..)) zs)
   ·refine Iff.trans ?_ (hE σ)
    have e:=L.e σ
    exact ⟨fun s=>have w:=e.mp ⟨s.1,fun q hq=>s.2 q (D0 _ hq)⟩;⟨w.1,fun q hq=>(C4.mp hq).elim (fun e=>e▸w.2) fun m=>s.2 q (B8 _ m)⟩,fun s=>have w:=e.mpr ⟨s.1,s.2 _ (.head _)⟩;⟨w.1,fun q hq=>(C5.mp hq).elim (w.2 q) fun m=>s.2 q (.tail _ m)⟩⟩
   ·refine wg wsz_app ?_
    exact A9 (y8 L.l _) (E6 hk)
  ·cases W with
   | cons q W=>rw[IP,A7] at e;exact absurd (of_decide_eq_false e) (fun q=>q (K4.mpr (L0 _)))
   | nil=>
    refine ex1 (Sat.ex hT.n) fun σ s=>?_
    exact yes ⟨σ,(hE σ).mp ⟨s,nofun⟩⟩ _
 ·cases A8.mp hq;exact ⟨hw,h7,ht⟩
 ·cases A8.mp hq;exact s
theorem y_cov {n m:Nat} {w t:V} {hp:Hp} {K:KV} (hw:Pa n w) (h7:n≤7) (ht:Pa 7 t) (hz:(BU n w).length≤60) (yes:(∃σ,Mt σ n w t)→K (.bool true) hp) (no:(¬∃σ,Mt σ n w t)→K (.bool false) hp):Phi sc ns (m+3) 218 [t,w] hp K:=
 A0 rfl (y_matched hw h7 ht hz (fun h c=>IK trivial (yes h)) fun h c=>IK trivial (no h))
end
theorem pre_inj:∀n {s t},Tm n s→Tm n t→∀{r r'},(BU n s).map hv++r=(BU n t).map hv++r'→s=t∧r=r':=by
 intro n
 induction n with
 | zero=>exact fun h=>h.elim
 | succ n ih=>
  rintro s t ⟨o,ks,rfl,_,_,h⟩ ⟨o',ks',rfl,_,_,h'⟩ r r' e
  have kids:∀{ks ks':List V},(∀k∈ks,Tm n k)→(∀k∈ks',Tm n k)→ks.length=ks'.length→∀{r r'},(ks.flatMap (BU n)).map hv++r=(ks'.flatMap (BU n)).map hv++r'→ks=ks'∧r=r':=by
   intro ks
   induction ks with
   | nil=>
    intro ks' _ _ hl r r' e
    cases ks' with
    | nil=>exact ⟨rfl,e⟩
    | cons _ _=>cases hl
   | cons k ks ih2=>
    intro ks' h h' hl r r' e
    cases ks' with
    | nil=>cases hl
    | cons k' ks'=>
     rw[M6,M6,G5,G5,E5,E5] at e
     have q:=ih (h k (.head _)) (h' k' (.head _)) e
     have q2:=ih2 (fun k hk=>h k (.tail _ hk)) (fun k hk=>h' k (.tail _ hk)) (Q3 hl) q.2
     exact ⟨q.1▸q2.1▸rfl,q2.2⟩
  have e:hv (.tup (.str o::ks))::((ks.flatMap (BU n)).map hv++r)=hv (.tup (.str o'::ks'))::((ks'.flatMap (BU n)).map hv++r'):=e
  refine an2 (W2 e) fun e1 e2=>?_
  injection e1 with e1
  injection e1 with e1 e3
  injection e3 with e3
  have e3:=V.int.inj e3
  rw[K9,K9] at e3
  cases e1
  have q:=kids h h' (by omega) e2
  exact ⟨q.1▸rfl,q.2⟩
theorem map2_inj {f g:V→V}:∀{l l':List V},l.map f=l'.map f→l.map g=l'.map g→l.map (fun s=>V.tup [f s,g s])=l'.map fun s=>V.tup [f s,g s]:=by
 intro l
 induction l with
 | nil=>
  intro l' e _
  exact wg (V7.mp e.symm) rfl
 | cons x l ih=>
  intro l' e e'
  cases l' with
  | nil=>cases e
  | cons y l'=>
   refine an2 (W2 e) fun a1 a2=>?_
   refine an2 (W2 e') fun b1 b2=>?_
   exact wg Q2 (wg Q2 (wg a1 (wg b1 (wg (ih a2 b2) rfl))))
theorem IQ {n:Nat} {s t:V} (hs:Tm n s) (ht:Tm n t) (e:EX (BU n s)=EX (BU n t)):s=t:=by
 injection e with e
 injection e with _ e
 injection e with e1 e
 injection e with e2 _
 have:=map2_inj (V.tup.inj e1) (V.tup.inj e2)
 exact (pre_inj n hs ht (r:=[]) (r':=[]) (by refine wg (D8 ..) (wg (D8 ..) ?_);exact this)).1
theorem rank_key {S S':List V}:ltV (FC S) (FC S')=ltV (EX S) (EX S'):=by
 have c:∀{b b':List V} {x y:Option Bool},(if (V.lst b)= .lst b' then x else y)=if (V.tup b)= .tup b' then x else y:=fun {b b' x y}=>by
  by_cases h:b=b'
  ·exact wg (if_pos (congrArg V.lst h)) (wg (if_pos (congrArg V.tup h)) rfl)
  ·exact wg (if_neg fun e=>h (V.lst.inj e)) (wg (if_neg fun e=>h (V.tup.inj e)) rfl)
 show (if V.int S.length= .int S'.length then if (V.lst (S.map hd0))= .lst (S'.map hd0) then if (V.lst (S.map ar0))= .lst (S'.map ar0) then some false else Cj (S.map ar0) (S'.map ar0) else Cj (S.map hd0) (S'.map hd0) else _)=_
 refine wg c (wg c ?_);rfl
theorem rank_inj {S S':List V} (e:FC S=FC S'):EX S=EX S':=by
 injection e with e
 injection e with e0 e
 injection e with e1 e
 injection e with e2 _
 unfold EX
 exact wg e0 (wg (V.lst.inj e1) (wg (V.lst.inj e2) rfl))
theorem lts_str:∀{l l':List V},(∀x∈l,∃s,x= .str s)→(∀x∈l',∃s,x= .str s)→Cj l l'≠none:=by
 intro l
 induction l with
 | nil=>exact fun zz zz e=>nomatch e
 | cons x l ih=>
  intro l' h h'
  cases l' with
  | nil=>exact fun e=>nomatch e
  | cons y l'=>
   show (if x=y then _ else _)≠_
   split
   ·exact ih (fun z hz=>h z (.tail _ hz)) fun z hz=>h' z (.tail _ hz)
   ·refine ex1 (h x (.head _)) fun s hh1=>?_;obtain rfl:=hh1
    refine ex1 (h' y (.head _)) fun t hh1=>?_;obtain rfl:=hh1
    exact fun e=>nomatch e
theorem lts_int:∀{l l':List V},(∀x∈l,∃s,x= .int s)→(∀x∈l',∃s,x= .int s)→Cj l l'≠none:=by
 intro l
 induction l with
 | nil=>exact fun zz zz e=>nomatch e
 | cons x l ih=>
  intro l' h h'
  cases l' with
  | nil=>exact fun e=>nomatch e
  | cons y l'=>
   show (if x=y then _ else _)≠_
   split
   ·exact ih (fun z hz=>h z (.tail _ hz)) fun z hz=>h' z (.tail _ hz)
   ·refine ex1 (h x (.head _)) fun s hh1=>?_;obtain rfl:=hh1
    refine ex1 (h' y (.head _)) fun t hh1=>?_;obtain rfl:=hh1
    exact fun e=>nomatch e
theorem IR {n:Nat} {t:V} (h:Tm n t):(∀x∈(BU n t).map hd0,∃s,x= .str s∧J3 s=true)∧∀x∈(BU n t).map ar0,∃i,x= .int i:=by
 have:∀s∈BU n t,∃o ks,s= .tup (.str o::ks)∧J3 o=true:=fun s hs=>by
  refine BD (GH n h s hs) fun k zz hk=>?_
  cases k with
  | zero=>exact hk.elim
  | succ k=>refine CE hk fun o ks e h1 zz=>?_;clear hk;exact ⟨o,ks,e,h1.1⟩
 exact ⟨fun x hx=>by refine BD (B5.mp hx) fun s hs hh2=>?_;obtain rfl:=hh2;refine CU (this s hs) fun o ks hh2 h1=>?_;obtain rfl:=hh2;exact ⟨o,rfl,h1⟩,fun x hx=>by refine BD (B5.mp hx) fun s hs hh2=>?_;obtain rfl:=hh2;refine CU (this s hs) fun o ks hh2 h1=>?_;obtain rfl:=hh2;exact ⟨_,rfl⟩⟩
theorem key_lt {n:Nat} {s t:V} (hs:Tm n s) (ht:Tm n t):ltV (EX (BU n s)) (EX (BU n t))≠none:=by
 have a:=IR hs
 have b:=IR ht
 show (if V.int _= .int _ then if (V.tup _)= .tup _ then if (V.tup _)= .tup _ then some false else Cj _ _ else Cj _ _ else _)≠none
 split
 ·split
  ·split
   ·exact fun e=>nomatch e
   ·exact lts_int a.2 b.2
  ·exact lts_str (fun x hx=>(a.1 x hx).imp fun zz h=>h.1) fun x hx=>(b.1 x hx).imp fun zz h=>h.1
 ·exact fun e=>nomatch e
theorem all_V {c:Bool} {n k:Nat} {l:List V} (h:(∀x∈l,∃s,x= .str s∧J3 s=true)∨∀x∈l,∃i,x= .int i):l.all (V.ok c k)=true:=E0.mpr fun x hx=>by
 rcases h with h | h
 ·refine BD (h x hx) fun s hh1 e=>?_;obtain rfl:=hh1;cases k <;> exact e
 ·refine ex1 (h x hx) fun s hh1=>?_;obtain rfl:=hh1;cases k <;> rfl
theorem key_cmp {n:Nat} {t:V} (h:Tm n t):V.cmp 8 (EX (BU n t))=true∧V.cmp 8 (FC (BU n t))=true:=by
 have a:=all_V (c:=true) (n:=0) (k:=6) (.inl (IR h).1)
 have b:=all_V (c:=true) (n:=0) (k:=6) (.inr (IR h).2)
 exact ⟨show (true&&(BA _ _&&(BA _ _&&true)))=true by refine wg a (wg b ?_);rfl,show (true&&((true&&BA _ _)&&((true&&BA _ _)&&true)))=true by refine wg a (wg b ?_);rfl⟩
section
variable {κ:V→V} {fn:Fn} {L:List V}
theorem keys_of {hp:Hp}:∀{L ks:List V} {K:List V→Hp→Prop},(∀v∈L,∀{K:KV},K (κ v) hp→fn [v] hp K)→K (ks++L.map κ) hp→keysX fn L ks hp K:=by
 intro L
 induction L with
 | nil=>exact fun {ks K} _ k=>by rw[List.map_nil,D8] at k;exact k
 | cons v L ih=>exact fun {ks K} h k=>h v (.head _) (ih (fun v hv=>h v (.tail _ hv)) (by refine wg (E5 ..) ?_;exact k))
structure Seq (κ:V→V) (L R:List V):Prop where
 p:R.Perm L
 a:Asc (R.map κ)
theorem y_keyed {hp:Hp} {a:Nat} {d:List (V×V)} {K:KV} (hd:hp.f a=some (.dict true d)) (hL:d.map (·.1)=L) (hz:L.length<60) (hf:∀v∈L,∀{K:KV},K (κ v) hp→fn [v] hp K) (hn:L.Nodup) (hi:∀v∈L,∀w∈L,κ v=κ w→v=w)
  (hc:∀v∈L,V.cmp 8 (κ v)=true∧Eo (κ v)) (ht:∀v∈L,∀w∈L,ltV (κ v) (κ w)≠none) (k:∀R,Seq κ L R→K (.lst R) hp):pD (hp.f a) fun b d=>b=true∧d.length<60∧keysX fn (d.map (·.1)) [] hp fun ks hp'=>(hp'=hp∧Srt ks∧∀k∈ks,Eo k)∧
   ∀ks':List V,ks'.Perm ks→Asc ks'→K (.lst (ks'.map fun k=>(d.map (·.1)).getD (ks.idxOf k) .none)) hp:=by
 subst hL
 have im:∀x∈(d.map (·.1)).map κ,∃v∈d.map (·.1),κ v=x:=fun x hx=>B5.mp hx
 refine pD_ hd ⟨rfl,by rw[A4] at hz;exact hz,keys_of hf ⟨⟨rfl,⟨?_,.inl ?_,?_,by refine wg (List.nil_append ..) (wg (A4 ..) ?_);exact hz,?_⟩,?_⟩,fun ks' hp' ha=>k _ ?_⟩⟩
 ·intro x hx;refine BD (im x hx) fun v hv hh2=>?_;obtain rfl:=hh2;exact (hc v hv).1
 ·intro x hx;refine BD (im x hx) fun v hv hh2=>?_;obtain rfl:=hh2;exact (hc v hv).2
 ·intro x hx y hy;refine BD (im x hx) fun v hv hh2=>?_;obtain rfl:=hh2;refine BD (im y hy) fun w hw hh2=>?_;obtain rfl:=hh2;exact ht v hv w hw
 ·exact R4.mpr (hn.imp_of_mem fun a b q e=>q (hi _ a _ b e))
 ·intro x hx;refine BD (im x hx) fun v hv hh2=>?_;obtain rfl:=hh2;exact (hc v hv).2
 ·have inv:∀x∈(d.map (·.1)).map κ,κ ((d.map (·.1)).getD (((d.map (·.1)).map κ).idxOf x) .none)=x:=fun x hx=>by
   have hi:=Z6.mpr hx
   have hi':=hi
   rw[A4] at hi'
   exact wg (Cz hi') (wh (M4 κ (h:=hi)) (wg (Ab hi) rfl))
  rw[List.nil_append] at hp' ⊢
  refine ⟨?_,?_⟩
  ·refine (hp'.map _).trans (List.Perm.of_eq ?_)
   refine wg G2 ?_
   conv=>rhs;rw[←g8 (d.map (·.1))]
   refine H4 fun v hv=>?_
   have m:=H1 (f:=κ) hv
   refine hi _ ?_ _ hv (inv _ m)
   have hi:=Z6.mpr m
   rw[A4] at hi
   show (d.map (·.1)).getD (((d.map (·.1)).map κ).idxOf (κ v)) .none∈_
   refine wg (Cz hi) ?_;exact N2 hi
  ·refine wg G2 ?_
   have:ks'.map (κ∘fun k=>(d.map (·.1)).getD (((d.map (·.1)).map κ).idxOf k) .none)=ks':=by
    conv=>rhs;rw[←g8 ks']
    exact H4 fun x hx=>inv x (hp'.mem_iff.mp hx)
   refine wg this ?_;exact ha
end
theorem Bq {h a b:Hp}:h++a++b=h++(a++b):=E5 h a b
section
variable {c:XE Bool} {e:XE V} {K:List V→Hp→Prop} {hp:Hp} {vs:List V} {o:Option V} {r:Lc}
theorem x_filtG {p:V→Bool} (hz:vs.length≤4096) (he:∀v∈vs,∀(g:Hp) (Z:Bool→Hp→Prop),(∀g':Hp,Z (p v) (hp++g'))→c (some v::r) (hp++g) Z) (k:∀g:Hp,K (vs.filter p) (hp++g)) (g0:Hp):xcl (BE 0) (DL c (BY (BB 0))) tt (fun zz acc hp=>K acc hp) vs (o::r) [] (hp++g0):=by
 refine x_cl (I:=fun l lc acc h=>∃d o g,vs=d++l∧lc=o::r∧acc=d.filter p∧h=hp++g) (fun zz zz zz zz zz=>trivial) (fun v l lc acc h Z I hZ=>?_) (fun lc acc h I=>?_) vs ⟨[],o,g0,rfl,rfl,rfl,rfl⟩
 ·refine Dw I fun d o g hh3 hh4 hh=>?_;clear I;obtain rfl:=hh3;obtain rfl:=hh4;refine an2 hh fun hh0 hh1=>?_;clear hh;obtain rfl:=hh0;obtain rfl:=hh1
  refine he v (B8 _ (.head _)) g _ fun g'=>⟨fun e=>⟨?_,hZ _ _ _ ⟨d++[v],_,g',by refine wg (E5 ..) ?_;rfl,rfl,by refine wg (l6 ..) (wg (List.filter_cons_of_pos e) ?_);rfl,rfl⟩⟩,fun e=>hZ _ _ _ ⟨d++[v],_,g',by refine wg (E5 ..) ?_;rfl,rfl,by exact wg (l6 ..) (wg (List.filter_cons_of_neg (by rw[e];exact D3)) (wg List.filter_nil (wg (D8 ..) rfl))),rfl⟩⟩
  rw[A7] at hz
  exact A3 (s9 ..) (A3 (C0 _ _) hz)
 ·refine Dw I fun d o g e hh4 hh=>?_;clear I;obtain rfl:=hh4;refine an2 hh fun hh0 hh1=>?_;clear hh;obtain rfl:=hh0;obtain rfl:=hh1
  rw[D8] at e
  subst e;exact k g
theorem x_inn {f:V→V} {v0:V} {acc:List V} {KC:Lc→List V→Hp→Prop} {o:Option V} (hz:acc.length+vs.length≤4096) (he:∀v∈vs,∀Z:V→Hp→Prop,Z (f v) hp→e (some v0::some v::r) hp Z) (k:∀o,KC (some v0::o::r) (acc++vs.map f) hp):xcl (BE 1) (BY e) tt KC vs (some v0::o::r) acc hp:=by
 refine x_cl (I:=fun l lc a h=>∃d o,vs=d++l∧lc=some v0::o::r∧a=acc++d.map f∧h=hp) (fun zz zz zz zz zz=>trivial) (fun v l lc a h Z I hZ=>?_) (fun lc a h I=>?_) vs ⟨[],o,rfl,rfl,(D8 _).symm,rfl⟩
 ·refine DJ I fun d o hh2 hh3 hh4 hh5=>?_;clear I;obtain rfl:=hh2;obtain rfl:=hh3;obtain rfl:=hh4;obtain rfl:=hh5
  refine he v (B8 _ (.head _)) _ ⟨?_,hZ _ _ _ ⟨d++[v],_,by refine wg (E5 ..) ?_;rfl,rfl,by refine wg G5 (wg (E5 ..) ?_);rfl,rfl⟩⟩
  rw[A7] at hz
  refine wg A7 (wg (A4 ..) ?_);exact A3 (B7 (C0 _ _) _) hz
 ·refine DJ I fun d o e hh3 hh4 hh5=>?_;clear I;obtain rfl:=hh3;obtain rfl:=hh4;obtain rfl:=hh5
  rw[D8] at e
  subst e;exact k o
end
noncomputable def bestL (cov:V→V→Bool) (R:List V):List V:=R.filter fun wide=>decide (R.filter (fun one=> !decide (one=wide)&&cov wide one)=[])
theorem y_best {hp:Hp} {R:List V} {cov:V→V→Bool} {call:XE V} {lc:Lc} {i:Nat} {K:List V→Hp→Prop} (hi:DM lc i=some (.lst R)) (hz:R.length≤4096) (hR:∀v∈R,V.key 7 v=true) (hc:∀one∈R,∀wide∈R,∀(g:Hp) (K:KV),(∀g':Hp,K (.bool (cov wide one)) (hp++g'))→call [some one,some wide] (hp++g) K) (k:∀g:Hp,K (bestL cov R) (hp++g)) (g0:Hp):
  xcl (BE 0) (DL (xtb (BJ (Bl false) (Bg (Bf 1 [0] (Bi (BB 1)) (BE 0) (DL (xandB (xtb (BJ (Bl true) (BB 0) (BB 1))) (xtb call)) (BY (BB 0))))) (Bg (Bj [])))) (BY (BB 0))) tt (fun zz acc hp=>K acc hp) R (none::HD lc [i]) [] (hp++g0):=by
 show xcl _ _ _ _ R [none,DM lc i] [] _
 refine wg hi ?_
 have k7:∀v∈R,V.cmp 8 v=true:=fun v hv=>V.ok_up (b:=false) (c:=true) (fun e=>nomatch e) 7 v (hR v hv) 8 (by decide)
 refine x_filtG (r:=[some (.lst R)]) (p:=fun wide=>decide (R.filter (fun one=> !decide (one=wide)&&cov wide one)=[])) hz (fun wide hw g Z z=>?_) k g0
 refine x_filtG (r:=[some wide]) (p:=fun one=> !decide (one=wide)&&cov wide one) hz (fun one ho g Z z=>?_) (fun g=>?_) g
 ·have eqv:∀{K:KV} {h:Hp},K (.bool (!decide (one=wide))) h→Bl true one wide h K:=fun {K h} q=>by
   have c1:=k7 one ho
   have c2:=k7 wide hw
   have e1:∀{v:V} {P:V→Prop},V.key 7 v=true→P v→vw h v P:=fun {v P} kk p=>by
    cases v with
    | loc i=>cases kk
    | _=>exact p
   exact e1 (hR one ho) (e1 (hR wide hw) ⟨⟨c1,c2⟩,(i9 (decide (one=wide))).symm▸q⟩)
  refine eqv (K:=fun v hp=>vB v fun b=>cnd b (call [some one,some wide] hp fun v hp=>vB v fun b=>Z b hp) (Z false hp)) ⟨fun e=>?_,fun e=>?_⟩
  ·refine hc one ho wide hw g _ fun g'=>?_
   have:=z g'
   rw[e,u9] at this
   exact this
  ·have:=z g
   rw[e,Bool.false_and] at this
   exact this
 ·refine A0 ⟨?_,rfl⟩ ?_
  ·refine E3.mpr ⟨rfl,E0.mpr fun v hv=>?_⟩
   exact V.ok_up (b:=false) (c:=true) (fun e=>nomatch e) 7 v (hR v (AG.mp hv).1) 7 (B2 _)
  ·have e:∀{l:List V},(decide (V.lst l=V.lst [])^^false)=decide (l=[]):=fun {l}=>(W7 _).trans (decide_eq_decide.mpr ⟨V.lst.inj,congrArg _⟩)
   refine wg e ?_;exact z g
theorem Seq.same {n:Nat} {L L' R R':List V} (h:∀v∈L,Tm n v) (p:L.Perm L') (a:Seq (fun v=>EX (BU n v)) L R) (b:Seq (fun v=>FC (BU n v)) L' R'):R=R':=by
 have hb:Asc (R'.map fun v=>EX (BU n v)):=R4.mpr ((R4.mp b.a).imp fun e=>rank_key.symm.trans e)
 have pp:=(a.p.trans p).trans b.p.symm
 have e:=Asc.uniq a.a hb (pp.map _)
 have tR:∀v∈R,Tm n v:=fun v hv=>h v (a.p.mem_iff.mp hv)
 have tR':∀v∈R',Tm n v:=fun v hv=>tR v (pp.mem_iff.mpr hv)
 clear a b hb pp p h
 induction R generalizing R' with
 | nil=>exact (V7.mp e.symm).symm
 | cons v R ih=>
  cases R' with
  | nil=>cases e
  | cons v' R'=>
   refine an2 (W2 e) fun e1 e2=>?_
   exact wg (IQ (tR v (.head _)) (tR' v' (.head _)) e1) (wg (ih e2 (fun v hv=>tR v (.tail _ hv)) fun v hv=>tR' v (.tail _ hv)) rfl)
@[reducible] noncomputable def Nd:=Nat×List Nat
noncomputable def ops:List Str:=["x0","x1","x2","x3","x4","x5","x6","y0","y1","y2","y3","y4","y5","y6","f","w"]
noncomputable def opN (k:Nat):Str:=ops.getD k "w"
@[reducible] noncomputable def iN (k:Nat):V:= .int k
noncomputable def BI (nd:Nd):V:= .tup (.str (opN nd.1)::nd.2.map iN)
noncomputable def opOk (x:Str):Bool:=J3 x&&decide (0<x.length)&&decide (x.length≤100)&& !decide ((⟨(x.cps.toList.take 1).toArray⟩:Str)="?")
theorem op_ok:∀k,k<16→opOk (opN k)=true:=by decide+kernel
theorem op_inj:∀a,a<16→∀b,b<16→opN a=opN b→a=b:=by decide+kernel
structure OkO (x:Str):Prop where
 s:J3 x=true
 p:0<x.length
 z:x.length≤100
 q:isQ x=false
theorem Gg {k:Nat} (h:k<16):OkO (opN k):=by
 have:=op_ok k h
 simp only[opOk,T5,decide_eq_true_eq,g7,decide_eq_false_iff_not] at this
 exact ⟨this.1.1.1,this.1.1.2,this.1.2,decide_eq_false this.2⟩
@[reducible] noncomputable def By (p:Nat×Nat):V:= .tup [iN p.1,iN p.2]
noncomputable def sameN (one other:Nd):Bool:=H7 one.1 other.1&&H7 one.2.length other.2.length
noncomputable def appT (v x:V):V:=match v with
 | .tup r=>.tup (r++[x])
 | v=>v
noncomputable def DE:List V→List (List V)→List V
 | rows,[]=>rows
 | rows,l::ls=>DE (rows.flatMap fun row=>l.map (appT row)) ls
noncomputable def DY:List Nat→Nat
 | []=>1
 | n::r=>n*DY r
section
variable (L:Nat→List Nd)
noncomputable def shp:Nat→Nat→Nat→List V
 | 0,_,_=>[]
 | n+1,c,d=>.tup [iN c,iN d]::(L c).flatMap fun one=>(L d).flatMap fun other=>match sameN one other with
  | true=>DE [.tup [.str (opN one.1)]] ((one.2.zip other.2).map fun p=>shp n p.1 p.2)
  | false=>[]
noncomputable def cnt:Nat→Nat→Nat→Nat
 | 0,_,_=>0
 | n+1,c,d=>((L c).map fun one=>((L d).map fun other=>match sameN one other with
  | true=>DY ((one.2.zip other.2).map fun p=>cnt n p.1 p.2)
  | false=>0).sum).sum+1
noncomputable def ndB (nd:Nd):Bool:=K0 nd.1 15&&K0 nd.2.length 20
noncomputable def cfB:Nat→Nat→Nat→Bool
 | 0,_,_=>false
 | n+1,c,d=>(K0 c 19&&K0 d 19)&&(K0 (L c).length 20&&K0 (L d).length 20)&&((L c).all ndB&&(L d).all ndB)&&(!(L c).isEmpty&& !(L d).isEmpty)&&K0 (cnt L (n+1) c d) 59&&(L c).all fun one=>(L d).all fun other=> !sameN one other || (one.2.zip other.2).all fun p=>cfB n p.1 p.2
end
structure Cf (L:Nat→List Nd) (n c d:Nat):Prop where
 lc:c<20
 ld:d<20
 zc:(L c).length≤20
 zd:(L d).length≤20
 nc:∀nd∈L c,nd.1<16∧nd.2.length≤20
 nd:∀nd∈L d,nd.1<16∧nd.2.length≤20
 ec:L c≠[]
 ed:L d≠[]
 z:cnt L (n+1) c d≤59
 k:∀one∈L c,∀other∈L d,sameN one other=true→∀p∈one.2.zip other.2,cfB L n p.1 p.2=true
section
variable {L:Nat→List Nd} {n c d:Nat}
theorem Ee (h:cfB L (n+1) c d=true):Cf L n c d:=by
 have h:((K0 c 19&&K0 d 19)&&(K0 (L c).length 20&&K0 (L d).length 20)&&((L c).all ndB&&(L d).all ndB)&&(!(L c).isEmpty&& !(L d).isEmpty)&&K0 (cnt L (n+1) c d) 59&&((L c).all fun one=>(L d).all fun other=> !sameN one other || (one.2.zip other.2).all fun p=>cfB L n p.1 p.2))=true:=h
 have b:∀{a b:Bool},(a&&b)=true→a=true∧b=true:=E3.mp
 have k:∀{l:List Nd},l.all ndB=true→∀nd∈l,nd.1<16∧nd.2.length≤20:=fun h nd m=>have q:=b (E0.mp h nd m);⟨I7 (A6 q.1),A6 q.2⟩
 have e:∀{l:List Nd},(!l.isEmpty)=true→l≠[]:=fun h e=>by rw[e] at h;cases h
 have h1:=b h
 have h2:=b h1.1
 have h3:=b h2.1
 have h4:=b h3.1
 have h5:=b h4.1
 have h6:=b h5.1
 exact ⟨I7 (A6 h6.1),I7 (A6 h6.2),A6 (b h5.2).1,A6 (b h5.2).2,k (b h4.2).1,k (b h4.2).2,e (b h3.2).1,e (b h3.2).2,A6 h2.2,fun one m1 other m2 e=>fun p hp=>E0.mp ((R8.mp (E0.mp (E0.mp h1.2 one m1) other m2)).resolve_left fun q=>by rw[e] at q;cases q) p hp⟩
theorem same_eq {one other:Nd} (h:sameN one other=true):one.1=other.1∧one.2.length=other.2.length:=by
 have h:=E3.mp h
 exact ⟨F6 h.1,F6 h.2⟩
theorem same_mpr {one other:Nd} (h:one.1=other.1∧one.2.length=other.2.length):sameN one other=true:=by
 unfold sameN
 refine wg h.1 (wg h.2 (wg (R7 ..) (wg (R7 ..) ?_)));rfl
theorem prod_len:∀{ls:List (List V)} {rows:List V},(DE rows ls).length=rows.length*DY (ls.map T0):=by
 intro ls
 induction ls with
 | nil=>exact fun {rows}=>(Nat.mul_one _).symm
 | cons l ls ih=>
  intro rows
  show (DE _ ls).length=rows.length*(l.length*DY (ls.map T0))
  refine wg ih (wh (Nat.mul_assoc ..) ?_)
  refine congrArg (·*_) ?_
  induction rows with
  | nil=>exact (Nat.zero_mul _).symm
  | cons r rows ih2=>exact wg M6 (wg A7 (wg ih2 (wg (A4 ..) (wg K9 (wg (Nat.succ_mul ..) (wg (P7 ..) rfl))))))
theorem GI:∀n {c d},(shp L n c d).length=cnt L n c d:=by
 intro n
 induction n with
 | zero=>exact rfl
 | succ n ih=>
  intro c d
  show (AS _ _).length+1=_
  refine wg i7 ?_
  refine congrArg (·+1) (congrArg List.sum (H4 fun one zz=>?_))
  refine wg i7 ?_
  refine congrArg List.sum (H4 fun other zz=>?_)
  cases sameN one other with
  | false=>rfl
  | true=>
   show (DE _ _).length=DY _
   refine wg prod_len (wg G2 ?_)
   refine (Nat.one_mul _).trans (congrArg DY (H4 fun p zz=>ih))
noncomputable def EY:List V→List (List V)→Prop
 | [],ls=>ls=[]
 | x::xs,ls=>∃l r,ls=l::r∧x∈l∧EY xs r
theorem mem_prod:∀{ls:List (List V)} {rows:List V} {x:V},(∀r∈rows,∃l,r= .tup l)→(x∈DE rows ls↔∃l ks,.tup l∈rows∧EY ks ls∧x= .tup (l++ks)):=by
 intro ls
 induction ls with
 | nil=>
  intro rows x h
  refine ⟨fun m=>?_,fun x=>x.elim fun l x=>x.elim fun ks x=>?_⟩
  ·refine ex1 (h x m) fun l hh1=>?_;obtain rfl:=hh1
   exact ⟨l,[],m,rfl,by exact wg (D8 ..) rfl⟩
  ·cases ks with
   | nil=>refine wg x.2.2 (wg (D8 ..) ?_);exact x.1
   | cons _ _=>refine CU x.2.1 fun zz zz e zz=>?_;cases e
 | cons l ls ih=>
  intro rows x h
  have h':∀r∈rows.flatMap (fun row=>l.map (appT row)),∃l,r= .tup l:=fun r m=>by
   refine BD (H6.mp m) fun row m1 m2=>?_
   refine BD (B5.mp m2) fun y zz hh2=>?_;obtain rfl:=hh2
   refine ex1 (h row m1) fun q hh1=>?_;obtain rfl:=hh1
   exact ⟨_,rfl⟩
  refine (ih h').trans ⟨fun x=>x.elim fun q x=>x.elim fun ks x=>?_,fun x=>x.elim fun q x=>x.elim fun ks x=>?_⟩
  ·refine BD (H6.mp x.1) fun row m1 m2=>?_
   refine BD (B5.mp m2) fun y my e2=>?_
   refine ex1 (h row m1) fun q' hh1=>?_;obtain rfl:=hh1
   have e2:=V.tup.inj (show V.tup (q'++[y])= .tup q from e2)
   exact ⟨q',y::ks,m1,⟨l,ls,rfl,my,x.2.1⟩,by refine wg x.2.2 (wh e2 (wg (E5 ..) ?_));rfl⟩
  ·cases ks with
   | nil=>cases x.2.1
   | cons y ks=>
    refine CE x.2.1 fun zz zz e3 my a=>?_
    cases e3
    exact ⟨q++[y],ks,H6.mpr ⟨_,x.1,B5.mpr ⟨y,my,rfl⟩⟩,a,by refine wg x.2.2 (wg (E5 ..) ?_);rfl⟩
theorem mem_shp {s:V}:s∈shp L (n+1) c d↔s= .tup [iN c,iN d]∨∃one∈L c,∃other∈L d,sameN one other=true∧∃ks,EY ks ((one.2.zip other.2).map fun p=>shp L n p.1 p.2)∧s= .tup (.str (opN one.1)::ks):=by
 have r1:∀one:Nd,∀r∈[V.tup [.str (opN one.1)]],∃l,r= .tup l:=fun one r m=>⟨_,A8.mp m⟩
 refine C4.trans (or_congr f8 ⟨fun m=>?_,fun x=>?_⟩)
 ·refine BD (H6.mp m) fun one m1 m=>?_
  refine BD (H6.mp m) fun other m2 m=>?_
  cases e:sameN one other with
  | false=>rw[e] at m;cases m
  | true=>
   rw[e] at m
   refine CE ((mem_prod (r1 one)).mp m) fun l ks m3 a e2=>?_
   cases V.tup.inj (A8.mp m3)
   exact ⟨one,m1,other,m2,e,ks,a,e2⟩
 ·obtain ⟨one,m1,other,m2,e,ks,a,e2⟩:=x
  refine H6.mpr ⟨one,m1,H6.mpr ⟨other,m2,?_⟩⟩
  refine wg e ?_
  exact (mem_prod (r1 one)).mpr ⟨_,ks,.head _,a,e2⟩
theorem EY.each {P:V→Prop}:∀{ks:List V} {ls:List (List V)},EY ks ls→(∀l∈ls,∀x∈l,P x)→ks.length=ls.length∧∀x∈ks,P x:=by
 intro ks
 induction ks with
 | nil=>exact fun a zz=>by refine wg (show _=[] from a) ?_;exact ⟨rfl,nofun⟩
 | cons x ks ih=>
  rintro _ ⟨l,r,rfl,m,a⟩ H
  have q:=ih a fun l hl=>H l (.tail _ hl)
  exact ⟨congrArg (·+1) q.1,fun y hy=>(C4.mp hy).elim (fun e=>e▸H l (.head _) x m) (q.2 y)⟩
theorem Cs:∀n {c d},cfB L n c d=true→∀s∈shp L n c d,Sh n s:=by
 intro n
 induction n with
 | zero=>exact fun h=>nomatch h
 | succ n ih=>
  intro c d h s hs
  have C:=Ee h
  rcases mem_shp.mp hs with rfl | ⟨one,m1,other,m2,e,ks,a,rfl⟩
  ·exact .inl ⟨c,d,rfl,C.lc,C.ld⟩
  ·have q:=a.each (P:=Sh n) fun l hl x hx=>by
    refine BD (B5.mp hl) fun p hp hh2=>?_;obtain rfl:=hh2
    exact ih (C.k one m1 other m2 e p hp) x hx
   have o:=Gg (C.nc one m1).1
   refine .inr ⟨_,ks,rfl,⟨o.s,o.p,A3 o.z (by decide)⟩,o.q,?_,q.2⟩
   refine wg q.1 (wg (A4 ..) ?_)
   exact A3 (by refine wg j7 ?_;exact R9 _ _) (C.nc one m1).2
end
theorem pS_ {hp:Hp} {a:Nat} {l:List V} {kl:List V→Prop} {kd:List (V×V)→Prop} (h:hp.f a=some (.list l)) (q:kl l):pS (hp.f a) kl kd:=by unfold pS;refine wg h ?_;exact q
theorem x_two {hp:Hp} {vs l:List V} {o o':Option V} {r:Lc} {call e:XE V} {F:V→V→V} {K:List V→Hp→Prop} (hz:(vs.flatMap fun v=>l.map (F v)).length≤4096) (hcall:∀v∈vs,∀o (Z:V→Hp→Prop),Z (.lst l) hp→call (some v::o::r) hp Z) (he:∀v∈vs,∀x∈l,∀Z:V→Hp→Prop,Z (F v x) hp→e (some v::some x::r) hp Z)
  (k:K (vs.flatMap fun v=>l.map (F v)) hp):xcl (BE 0) (Hl (Bi call) (BE 1) (BY e)) tt (fun zz acc hp=>K acc hp) vs (o::o'::r) [] hp:=by
 refine x_cl (I:=fun s lc a h=>∃d o o',vs=d++s∧lc=o::o'::r∧a=d.flatMap (fun v=>l.map (F v))∧h=hp) (fun zz zz zz zz zz=>trivial) (fun v s lc a h Z I hZ=>?_) (fun lc a h I=>?_) vs ⟨[],o,o',rfl,rfl,rfl,rfl⟩
 ·refine Dw I fun d o o' hh3 hh4 hh=>?_;clear I;obtain rfl:=hh3;obtain rfl:=hh4;refine an2 hh fun hh0 hh1=>?_;clear hh;obtain rfl:=hh0;obtain rfl:=hh1
  have hv:v∈d++v::s:=B8 _ (.head _)
  refine hcall v hv o' _ (x_inn (f:=F v) ?_ (fun x hx=>he v hv x hx) fun o2=>hZ _ _ _ ⟨d++[v],_,o2,by refine wg (E5 ..) ?_;rfl,rfl,by exact wg Z8 (wg (p9 ..) rfl),rfl⟩)
  rw[Z8,M6,A7,A7,A4] at hz
  omega
 ·refine Dw I fun d o o' e hh4 hh=>?_;clear I;obtain rfl:=hh4;refine an2 hh fun hh0 hh1=>?_;clear hh;obtain rfl:=hh0;obtain rfl:=hh1
  rw[D8] at e
  subst e;exact k
structure Lts (hp:Hp) (lv:Nat) (L:Nat→List Nd) (b:Bool) (D:List (V×V)):Prop where
 d:hp.f lv=some (.dict b D)
 k:∀p∈D,p.1.kind=0
 z:D.length≤4096
 l:∀c,L c≠[]→∃a,BR D (iN c)=some (.loc a)∧hp.f a=some (.list ((L c).map BI))
theorem Lts.app {hp t:Hp} {lv L b D} (h:Lts hp lv L b D):Lts (hp++t) lv L b D:=⟨BT h.d,h.k,h.z,fun c hc=>(h.l c hc).imp fun zz w=>⟨w.1,BT w.2⟩⟩
theorem Lts.key {hp lv L b D} (h:Lts hp lv L b D) (c:Nat):Br D (iN c):=⟨rfl,h.k,h.z⟩
theorem GJ {one other:Nd} (h1:one.1<16) (h2:other.1<16):(decide (V.tup [.str (opN one.1),.int (((one.2.map iN).length+1:Nat):Int)]=V.tup [.str (opN other.1),.int (((other.2.map iN).length+1:Nat):Int)])^^false)=sameN one other:=by
 refine wg (W7 ..) ?_
 by_cases h:sameN one other=true
 ·refine an2 (same_eq h) fun e1 e2=>?_
  refine wg h (wg (A4 ..) (wg (A4 ..) (wg e1 (wg e2 ?_))));exact decide_eq_true rfl
 ·rw[t7] at h
  refine wg h ?_
  refine decide_eq_false fun e=>?_
  injection e with e
  injection e with e1 e
  injection e with e2 _
  have e2:=L8 (V.int.inj e2)
  rw[A4,A4] at e2
  rw[same_mpr ⟨op_inj _ h1 _ h2 (V.str.inj e1),by exact congrArg Nat.pred e2⟩] at h
  cases h
noncomputable def DZ (L:Nat→List Nd) (n:Nat) (one other:Nd):List V:=match sameN one other with
 | true=>DE [.tup [.str (opN one.1)]] ((one.2.zip other.2).map fun p=>shp L n p.1 p.2)
 | false=>[]
theorem op_cmp {k j:Nat} (h:k<16):V.cmp 8 (.tup [.str (opN k),.int j])=true:=E3.mpr ⟨(Gg h).s,rfl⟩
theorem flat_ge {f:V→List V}:∀{l:List V},(∀v,1≤(f v).length)→l.length≤(l.flatMap f).length:=fun {l} h=>I8 (B2 0) (fun v l ih=>by refine wg M6 (wg A7 (wg K9 (wg (P7 ..) ?_)));exact U8 (h v) ih) l
theorem prod_ge:∀{ls:List (List V)} {rows:List V},(∀l∈ls,l≠[])→rows.length≤(DE rows ls).length:=by
 intro ls
 induction ls with
 | nil=>exact fun zz=>B2 _
 | cons l ls ih=>exact fun h=>A3 (flat_ge fun v=>by refine wg (A4 ..) ?_;exact List.length_pos_iff.mpr (h l (.head _))) (ih fun l m=>h l (.tail _ m))
section
variable {sc:Addr} {ns:List Int} {L:Nat→List Nd} {lv:Nat} {b:Bool} {D:List (V×V)}
noncomputable def SsC (sc:Addr) (ns:List Int) (L:Nat→List Nd) (lv:Nat) (b:Bool) (D:List (V×V)) (n m:Nat):Prop:=∀{c d:Nat},cfB L n c d=true→∀{hp:Hp} {K:KV},Lts hp lv L b D→K (.lst (shp L n c d)) hp→Phi sc ns m 506 [.loc lv,iN c,iN d] hp K
theorem ss_in {n m:Nat} {ps:List (Nat×Nat)} {hp:Hp} {acc:List V} {v1 v2 v3 v4 v5 x7 x8:Option V} {N:Lc→Hp→Prop} {R:KV} (ih:SsC sc ns L lv b D n m) (hL:Lts hp lv L b D) (hc:∀p∈ps,cfB L n p.1 p.2=true) (hz:(DE acc (ps.map fun p=>shp L n p.1 p.2)).length≤59) (ha:∀r∈acc,∃l:List V,r= .tup l∧l.length+ps.length≤21)
  (kk:∀x7 x8,N [some (.loc lv),v1,v2,v3,v4,v5,some (.lst (DE acc (ps.map fun p=>shp L n p.1 p.2))),x7,x8] hp):
  xloop (Bw [(BE 7),(BE 8)]) (x_ss_r (Phi sc ns m)) tt N R (ps.map By) [some (.loc lv),v1,v2,v3,v4,v5,some (.lst acc),x7,x8] hp:=by
 have ne:∀p∈ps,∀l∈ps.map (fun p=>shp L n p.1 p.2),l≠[]:=fun zz zz l hl e=>by
  refine BD (B5.mp hl) fun p hp hh2=>?_;obtain rfl:=hh2
  cases n with
  | zero=>cases hc p hp
  | succ n=>cases e
 obtain ⟨A,eA⟩:∃A,A=acc:=⟨_,rfl⟩
 rw[←eA] at hz kk
 refine Fh (g:=tt) (fun l Q=>∀acc x7 x8,(∀p∈l,p∈ps)→DE acc (l.map fun p=>shp L n p.1 p.2)=DE A (ps.map fun p=>shp L n p.1 p.2)→(∀r∈acc,∃l':List V,r= .tup l'∧l'.length+l.length≤21)→Q [some (.loc lv),v1,v2,v3,v4,v5,some (.lst acc),x7,x8] hp) (fun p l Z hZ acc x7 x8 hl e ha=>A0 trivial (A0 rfl ?_)) (fun acc x7 x8 hl e ha=>A0 trivial ?_) ps acc x7 x8 (fun zz h=>h) (by exact wg eA rfl) ha
 ·have hp':=hl p (.head _)
  have e':DE (acc.flatMap fun row=>(shp L n p.1 p.2).map (appT row)) (l.map fun p=>shp L n p.1 p.2)=_:=e
  have zz:(acc.flatMap fun row=>(shp L n p.1 p.2).map (appT row)).length≤59:=A3 (A3 (prod_ge fun q hq=>ne p hp' q (by refine BD (B5.mp hq) fun r hr hh2=>?_;obtain rfl:=hh2;exact H1 (f:=fun p=>shp L n p.1 p.2) (hl r (.tail _ hr)))) (B3 (congrArg T0 e'))) hz
  refine x_two (F:=appT) (l:=shp L n p.1 p.2) (A3 zz (by decide)) (fun v zz o Z z=>ih (hc p hp') hL z) (fun v hv x zz Z z=>?_) (hZ _ _ _ (fun q hq=>hl q (.tail _ hq)) e' fun r hr=>?_)
  ·refine BD (ha v hv) fun l' hh1 zl=>?_;obtain rfl:=hh1
   exact A0 (A3 (A3 (B7 (D5 1 l.length) _) zl) (by decide)) z
  ·refine BD (H6.mp hr) fun v hv hr=>?_
   refine BD (B5.mp hr) fun x zz hh2=>?_;obtain rfl:=hh2
   refine BD (ha v hv) fun l' hh1 zl=>?_;obtain rfl:=hh1
   exact ⟨_,rfl,by refine wg A7 ?_;exact A3 (B3 (N5 l'.length 1 l.length)) zl⟩
 ·have e:acc=_:=e
  refine wg e ?_;exact kk x7 x8
theorem ss_c {n m:Nat} {c d:Nat} {one other:Nd} {hp:Hp} {acc:List V} {v1 v2 x6 x7 x8:Option V} {Z:Lc→Hp→Prop} {R:KV} (ih:SsC sc ns L lv b D n m) (hL:Lts hp lv L b D) (C:Cf L n c d) (m1:one∈L c) (m2:other∈L d) (hz:(acc++DZ L n one other).length≤59)
  (kk:∀x6 x7 x8,Z [some (.loc lv),v1,v2,some (.loc hp.length),some (BI one),some (BI other),x6,x7,x8] (hp++[.list (acc++DZ L n one other)])):
  x_ss_c (Phi sc ns m) [some (.loc lv),v1,v2,some (.loc hp.length),some (BI one),some (BI other),x6,x7,x8] (hp++[.list acc]) Z R:=by
 refine an2 (C.nc one m1) fun n1 n2=>?_
 refine an2 (C.nd other m2) fun n3 n4=>?_
 have zo:(one.2.map iN).length+1≤21:=by refine wg (A4 ..) ?_;exact B1 n2
 have zp:(other.2.map iN).length+1≤21:=by refine wg (A4 ..) ?_;exact B1 n4
 have z21:∀{i:Nat},i≤21→i≤4096:=fun h=>A3 h (by decide)
 refine A0 ⟨z21 zo,H3 0⟩ (A0 (z21 zo) (A0 ⟨z21 zp,H3 0⟩ (A0 (z21 zp) (A0 ⟨op_cmp n1,op_cmp n3⟩ (A0 (fun es=>?_) fun es=>?_)))))
 ·have es:sameN one other=true:=(GJ n1 n3).symm.trans es
  have eg:DZ L n one other=DE [.tup [.str (opN one.1)]] ((one.2.zip other.2).map fun p=>shp L n p.1 p.2):=by unfold DZ;exact wg es rfl
  have hz2:=A3 (A3 (D5 _ acc.length) (B3 A7.symm)) hz
  rw[eg] at kk hz hz2
  refine A0 ⟨z21 zo,H3 0⟩ (A0 (D6 (z21 zo)) (A0 (D6 (z21 zp)) ?_))
  show xloop _ (x_ss_r (Phi sc ns m)) tt _ _ (Co (one.2.map iN) (other.2.map iN)) _ _
  refine wg (show Co (one.2.map iN) (other.2.map iN)=(one.2.zip other.2).map By by rw[Gf,List.zip_map,G2];rfl) ?_
  refine ss_in ih hL.app (C.k one m1 other m2 es) hz2 (fun r hr=>⟨_,A8.mp hr,?_⟩) fun x7 x8=>A0 (pL_ Bn trivial) (pL_ Bn (A0 (A3 (B3 A7.symm) (A3 hz (by decide))) ?_))
  ·refine wg j7 ?_
   exact A3 (B7 (A3 (R9 _ _) n2) 1) (by decide)
  ·refine wg Cr ?_;exact kk _ x7 x8
 ·have es:sameN one other=false:=(GJ n1 n3).symm.trans es
  have eg:DZ L n one other=[]:=by unfold DZ;exact wg es rfl
  rw[eg,D8] at kk
  exact kk x6 x7 x8
theorem ss_o {n m:Nat} {c d:Nat} {one:Nd} {hp:Hp} {acc:List V} {v1 x5 x6 x7 x8:Option V} {Z:Lc→Hp→Prop} {R:KV} (ih:SsC sc ns L lv b D n m) (hL:Lts hp lv L b D) (C:Cf L n c d) (m1:one∈L c) (hz:(acc++(L d).flatMap (DZ L n one)).length≤59)
  (kk:∀x5 x6 x7 x8,Z [some (.loc lv),v1,some (iN d),some (.loc hp.length),some (BI one),x5,x6,x7,x8] (hp++[.list (acc++(L d).flatMap (DZ L n one))])):
  x_ss_o (Phi sc ns m) [some (.loc lv),v1,some (iN d),some (.loc hp.length),some (BI one),x5,x6,x7,x8] (hp++[.list acc]) Z R:=by
 refine BD (hL.l d C.ed) fun ad ld1 ld2=>?_
 obtain ⟨A,eA⟩:∃A,A=acc++(L d).flatMap (DZ L n one):=⟨_,rfl⟩
 rw[←eA] at hz kk
 refine pD_ (BT hL.d) (A0 (hL.key d) (so_ ld1 (pS_ (BT ld2) ?_)))
 refine Fh (g:=fun hp=>hp.f ad=some (.list ((L d).map BI))) (fun l Q=>∀acc x5 x6 x7 x8,(∀o∈l,o∈L d)→acc++l.flatMap (DZ L n one)=A→Q [some (.loc lv),v1,some (iN d),some (.loc hp.length),some (BI one),x5,x6,x7,x8] (hp++[.list acc])) (fun o l Z hZ acc x5 x6 x7 x8 hl e=>A0 (BT ld2) ?_) (fun acc x5 x6 x7 x8 hl e=>A0 (BT ld2) ?_) (L d) acc x5 x6 x7 x8 (fun zz h=>h) eA.symm
 ·rw[M6,←E5] at e
  have zz:(acc++DZ L n one o).length≤59:=A3 (A3 (C0 _ _) (B3 A7.symm)) (A3 (B3 (congrArg T0 e)) hz)
  exact ss_c ih hL C m1 (hl o (.head _)) zz fun x6 x7 x8=>hZ _ _ x6 x7 x8 (fun o h=>hl o (.tail _ h)) e
 ·rw[List.flatMap_nil,D8] at e
  refine wg e ?_;exact kk x5 x6 x7 x8
theorem y_shapes:∀n {c d:Nat},cfB L n c d=true→∀{m} {hp:Hp} {K:KV},n≤m→Lts hp lv L b D→K (.lst (shp L n c d)) hp→Phi sc ns m 506 [.loc lv,iN c,iN d] hp K:=by
 intro n
 induction n with
 | zero=>exact fun h=>nomatch h
 | succ n ih=>
  intro c d hcf m hp K hm hL k
  obtain ⟨m,rfl⟩:∃k,m=k+1:=⟨m - 1,(V1 (A9 (L0 n) hm)).symm⟩
  have C:=Ee hcf
  refine BD (hL.l c C.ec) fun ac lc1 lc2=>?_
  obtain ⟨A,eA⟩:∃A,A=[V.tup [iN c,iN d]]++(L c).flatMap fun one=>(L d).flatMap (DZ L n one):=⟨_,rfl⟩
  have e0:shp L (n+1) c d=A:=eA.symm
  have hz:A.length≤59:=A3 (B3 ((congrArg T0 e0.symm).trans (GI (n+1)))) C.z
  have hbd:=Cs _ hcf
  rw[e0] at k hbd
  refine A0 rfl (pD_ (BT hL.d) (A0 (hL.key c) (so_ lc1 (pS_ (BT lc2) ?_))))
  refine Fh (g:=fun hp=>hp.f ac=some (.list ((L c).map BI))) (fun l Q=>∀acc x4 x5 x6 x7 x8,(∀o∈l,o∈L c)→acc++l.flatMap (fun one=>(L d).flatMap (DZ L n one))=A→Q [some (.loc lv),some (iN c),some (iN d),some (.loc hp.length),x4,x5,x6,x7,x8] (hp++[.list acc])) (fun o l Z hZ acc x4 x5 x6 x7 x8 hl e=>A0 (BT lc2) ?_) (fun acc x4 x5 x6 x7 x8 hl e=>A0 (BT lc2) ?_) (L c) _ none none none none none (fun zz h=>h) eA.symm
  ·rw[M6,←E5] at e
   have zz:(acc++(L d).flatMap (DZ L n o)).length≤59:=A3 (A3 (C0 _ _) (B3 A7.symm)) (A3 (B3 (congrArg T0 e)) hz)
   exact ss_o (fun {c d} h {hp K} hL k=>ih h (D6 hm) hL k) hL C (hl o (.head _)) zz fun x5 x6 x7 x8=>hZ _ _ x5 x6 x7 x8 (fun o h=>hl o (.tail _ h)) e
  ·rw[List.flatMap_nil,D8] at e
   refine wg e ?_
   exact IL (Dx fun q hq=>ok_bd _ q (sh_key _ q (hbd q hq))) k
end
section
variable {L:Nat→List Nd}
theorem shp_eq:∀{n m c d},cfB L n c d=true→cfB L m c d=true→shp L n c d=shp L m c d:=by
 intro n
 induction n with
 | zero=>exact fun h=>nomatch h
 | succ n ih=>
  intro m c d h h'
  cases m with
  | zero=>cases h'
  | succ m=>
   have C:=Ee h
   have C':=Ee h'
   refine congrArg (fun l=>V.tup [iN c,iN d]::l) ?_
   refine wg b0 (wg b0 ?_)
   refine congrArg List.flatten (H4 fun one m1=>?_)
   refine wg b0 (wg b0 ?_)
   refine congrArg List.flatten (H4 fun other m2=>?_)
   cases e:sameN one other with
   | false=>rfl
   | true=>exact congrArg (DE _) (H4 fun p hp=>ih (C.k one m1 other m2 e p hp) (C'.k one m1 other m2 e p hp))
theorem vz_eq:∀n v,Sh n v→∀{m},Sh m v→vz n v=vz m v∧pt n v=pt m v:=Sh.rec' (P:=fun n v=>∀{m},Sh m v→vz n v=vz m v∧pt n v=pt m v) (fun n c d h1 h2 m h=>by
  cases m with
  | zero=>exact h.elim
  | succ m=>exact ⟨rfl,rfl⟩) fun n o ks h1 h2 h3 h ih m h'=>by
 cases m with
 | zero=>exact h'.elim
 | succ m=>
  rcases h' with ⟨c,d,e,_⟩ | ⟨o',ks',e,_,_,_,h'⟩
  ·cases e
  ·cases e
   exact ⟨congrArg (·+1) (congrArg List.sum (H4 fun k hk=>(ih k hk (h' k hk)).1)),congrArg (fun l=>V.tup (.str o::l)) (H4 fun k hk=>(ih k hk (h' k hk)).2)⟩
end
theorem FD {α:Type}:∀{l m:List α},l.Nodup→(∀x∈l,x∈m)→l.length≤m.length:=by
 intro l
 induction l with
 | nil=>exact fun zz zz=>E2 _
 | cons x l ih=>
  intro m hn h
  have hn':=O5.mp hn
  refine ex2 (Af (h x (.head _))) fun a b hh2=>?_;obtain rfl:=hh2
  have:=ih (m:=a++b) hn'.2 fun y hy=>by
   rcases C5.mp (h y (.tail _ hy)) with m1 | m1
   ·exact D0 _ m1
   ·rcases C4.mp m1 with rfl | m1
    ·exact absurd hy hn'.1
    ·exact B8 _ m1
  rw[A7] at this ⊢
  exact B1 this
theorem tm_lt:∀{n s},Tm n s→∀{m t},Tm m t→ltV s t≠none:=by
 intro n
 induction n with
 | zero=>exact fun h=>h.elim
 | succ n ih=>
  rintro s ⟨o,ks,rfl,_,_,h⟩ m t ht
  cases m with
  | zero=>exact ht.elim
  | succ m=>
   refine DJ ht fun o' ks' hh2 zz zz h'=>?_;clear ht;obtain rfl:=hh2
   have kids:∀{ks ks':List V},(∀k∈ks,Tm n k)→(∀k∈ks',Tm m k)→Cj ks ks'≠none:=by
    intro ks
    induction ks with
    | nil=>exact fun zz zz e=>nomatch e
    | cons k ks ih2=>
     intro ks' h h'
     cases ks' with
     | nil=>exact fun e=>nomatch e
     | cons k' ks'=>
      show (if k=k' then _ else _)≠_
      split
      ·exact ih2 (fun k hk=>h k (.tail _ hk)) fun k hk=>h' k (.tail _ hk)
      ·exact ih (h k (.head _)) (h' k' (.head _))
   show (if V.str o= .str o' then _ else _)≠_
   split
   ·exact kids h h'
   ·exact fun e=>nomatch e
structure HC where
 h:Nat
 n:Nat
 k:Nat
 r:Nat
 b:Nat
noncomputable def upd (C:HC) (hp:Hp) (k r:List (V×V)):Hp:=(hp.put C.k (.dict true k)).put C.r (.dict true r)
noncomputable def Agr (X:List Nat) (hp hp':Hp):Prop:=∀i o,i∉X→hp.f i=some o→hp'.f i=some o
theorem Agr.app {X:List Nat} {hp t:Hp}:Agr X hp (hp++t):=fun i o zz e=>BT e
theorem Agr.trans {X:List Nat} {a b c:Hp} (h:Agr X a b) (h':Agr X b c):Agr X a c:=fun i o n e=>h' i o n (h i o n e)
section
variable {C:HC} {hp t:Hp} {k r k' r':List (V×V)} {o:PO}
theorem upd_app (h1:C.k<hp.length) (h2:C.r<hp.length):upd C (hp++t) k r=upd C hp k r++t:=by unfold upd;exact wg (GE h1) (wg (GE (by rw[DT];exact h2)) rfl)
theorem CL:(upd C hp k r).length=hp.length:=DT.trans DT
theorem upd_upd (ne:C.k≠C.r):upd C (upd C hp k r) k' r'=upd C hp k' r':=by
 unfold upd
 simp only[Bz]
 exact wg (List.set_comm _ _ (N6 ne)) (wg (Ax ..) (wg (Ax ..) rfl))
theorem HW (ne:C.k≠C.r) (h:C.k<hp.length):(upd C hp k r).f C.k=some (.dict true k):=(Bb (N6 ne)).trans (CG h)
theorem HX (h:C.r<hp.length):(upd C hp k r).f C.r=some (.dict true r):=CG (by refine wg DT ?_;exact h)
theorem Df (h1:hp.f C.k=some (.dict true k)) (h2:hp.f C.r=some (.dict true r)):upd C hp k r=hp:=by unfold upd;exact wg (DP h1) (wg (DP h2) rfl)
theorem IS:Agr [C.k,C.r] hp (upd C hp k r):=fun i o n e=>(Bb fun (q:C.r=i)=>n (C4.mpr (.inr (A8.mpr q.symm)))).trans ((Bb fun (q:C.k=i)=>n (C4.mpr (.inl q.symm))).trans e)
end
section
variable (sc:Addr) (ns:List Int) (C:HC) (G:Nat→List Nd) (Suf:List (List Nat)) (dom:Nat→Prop)
structure Bs (hp:Hp):Prop where
 i:hp.f C.h=some (.inst 264 C.n)
 n:hp.f C.n=some (.ns 264 [.loc C.b,.loc C.k,.loc C.r])
 b:hI hp 478 (.loc C.b) fun zz zz=>True
 ne:C.k≠C.r∧C.h≠C.k∧C.h≠C.r∧C.n≠C.k∧C.n≠C.r
 lk:C.k<hp.length
 lr:C.r<hp.length
 f:∀{hp'},Agr [C.k,C.r] hp hp'→(hI hp' 478 (.loc C.b) fun zz zz=>True)∧∀{c m:Nat},dom c→5≤m→∀{K:KV},K (.lst ((G c).map BI)) hp'→Phi sc ns m 456 [.loc C.b,iN c] hp' K
noncomputable def HA (n a b z:Nat) (l:List V):Prop:=l.Nodup∧∀p,p∈l↔∃s∈shp G n a b,vz n s=z∧p=pt n s
noncomputable def Ds (n:Nat) (xs ys:List Nat) (z:Nat) (l:List V):Prop:=l.length≤DY ((xs.zip ys).map fun p=>(shp G n p.1 p.2).length)∧∀v,v∈l↔∃ks,EY ks ((xs.zip ys).map fun p=>shp G n p.1 p.2)∧(ks.map (vz n)).sum=z∧v= .tup (ks.map (pt n))
noncomputable def KEnt (p:V×V):Prop:=∃n a b z l,n≤7∧cfB G n a b=true∧(1≤z∧z<11)∧p=(.tup [iN a,iN b,iN z],.lst l)∧HA G n a b z l
noncomputable def REnt (p:V×V):Prop:=∃n xs ys z l,n≤6∧(∀p∈xs.zip ys,cfB G n p.1 p.2=true)∧xs∈Suf∧ys∈Suf∧z<11∧p=(.tup [.tup (xs.map iN),.tup (ys.map iN),iN z],.lst l)∧Ds G n xs ys z l
structure CX (k r:List (V×V)):Prop where
 kn:(k.map (·.1)).Nodup
 ke:∀p∈k,KEnt G p
 rn:(r.map (·.1)).Nodup
 re:∀p∈r,REnt G Suf p
end
section
variable {sc:Addr} {ns:List Int} {C:HC} {G:Nat→List Nd} {Suf:List (List Nat)} {dom:Nat→Prop} {hp hp':Hp}
theorem Bs.agr (B:Bs sc ns C G dom hp) (h:Agr [C.k,C.r] hp hp') (hl:hp.length≤hp'.length):Bs sc ns C G dom hp':=
 have n:∀{i},i≠C.k→i≠C.r→i∉[C.k,C.r]:=fun h1 h2 m=>(C4.mp m).elim h1 fun m=>h2 (A8.mp m)
 ⟨h _ _ (n B.ne.2.1 B.ne.2.2.1) B.i,h _ _ (n B.ne.2.2.2.1 B.ne.2.2.2.2) B.n,(B.f h).1,B.ne,A9 B.lk hl,A9 B.lr hl,fun q=>B.f (h.trans q)⟩
theorem Bs.upd {k r:List (V×V)} (B:Bs sc ns C G dom hp):Bs sc ns C G dom (upd C hp k r):=B.agr IS (B3 CL.symm)
theorem Bs.app {t:Hp} (B:Bs sc ns C G dom hp):Bs sc ns C G dom (hp++t):=B.agr Agr.app (by refine wg A7 ?_;exact C0 _ _)
theorem EH {α β:Type} {f:α→List β} {n:Nat}:∀{l:List α},(∀x∈l,(f x).length=n)→(l.flatMap f).length=l.length*n:=by
 intro l
 induction l with
 | nil=>exact fun zz=>(Nat.zero_mul n).symm
 | cons x l ih=>exact fun h=>by exact wg M6 (wg A7 (wg (ih fun y hy=>h y (.tail _ hy)) (wg (h x (.head _)) (wg K9 (wg (Nat.succ_mul ..) (wg (P7 ..) rfl))))))
theorem CX.klen {k r:List (V×V)} (T:CX G Suf k r):k.length≤4096∧∀p∈k,p.1.kind=2:=by
 refine ⟨?_,fun p hp=>by refine ex3 (T.ke p hp) fun zz zz zz hh=>?_;obtain ⟨_,_,_,_,_,rfl,_⟩:=hh;rfl⟩
 have:=FD (m:=(J9 20).flatMap fun a=>(J9 20).flatMap fun b=>(J9 10).map fun z=>V.tup [iN a,iN b,iN (z+1)]) T.kn fun x hx=>by
  refine BD (B5.mp hx) fun p hp hh2=>?_;obtain rfl:=hh2
  refine ex3 (T.ke p hp) fun n a b hh=>?_;obtain ⟨z,l,h1,h2,h3,rfl,_⟩:=hh
  cases n with
  | zero=>cases h2
  | succ n=>exact H6.mpr ⟨a,X0.mpr (Ee h2).lc,H6.mpr ⟨b,X0.mpr (Ee h2).ld,B5.mpr ⟨z - 1,X0.mpr (Nat.sub_lt_left_of_lt_add h3.1 h3.2),by exact wg (Q5 h3.1) rfl⟩⟩⟩
 rw[A4,EH (n:=200) fun a zz=>EH (n:=10) fun b zz=>A4 _] at this
 exact A3 this (by decide)
theorem CX.rlen {k r:List (V×V)} (T:CX G Suf k r) (hS:Suf.length≤19):r.length≤4096∧∀p∈r,p.1.kind=2:=by
 refine ⟨?_,fun p hp=>by refine ex3 (T.re p hp) fun zz zz zz hh=>?_;obtain ⟨_,_,_,_,_,_,_,rfl,_⟩:=hh;rfl⟩
 have:=FD (m:=Suf.flatMap fun xs=>Suf.flatMap fun ys=>(J9 11).map fun z=>V.tup [.tup (xs.map iN),.tup (ys.map iN),iN z]) T.rn fun x hx=>by
  refine BD (B5.mp hx) fun p hp hh2=>?_;obtain rfl:=hh2
  refine ex3 (T.re p hp) fun n xs ys hh=>?_;obtain ⟨z,l,h1,h2,h3,h4,h5,rfl,_⟩:=hh
  exact H6.mpr ⟨xs,h3,H6.mpr ⟨ys,h4,B5.mpr ⟨z,X0.mpr h5,rfl⟩⟩⟩
 rw[A4,EH (n:=Suf.length*11) fun xs zz=>EH fun ys zz=>by exact wg (A4 ..) (wg P0 rfl)] at this
 exact A3 this (A3 (Nat.mul_le_mul hS (U7 11 hS)) (by decide))
end
theorem at_ {hp:Hp} {a d:Nat} {c:Addr} {l:List V} {k:Nat→List V→Prop} (h1:hp.f a=some (.inst c d)) (h2:hp.f d=some (.ns c l)) (q:k d l):pI (hp.f a) fun c' d=>c'=c∧pN (hp.f d) fun c' l=>c'=c∧k d l:=by
 unfold pI
 refine wg h1 ?_
 refine ⟨rfl,?_⟩
 unfold pN
 refine wg h2 ?_;exact ⟨rfl,q⟩
theorem bd_lst {n m:Nat} {l:List V} (h:∀v∈l,V.key n v=true):V.bd m (.lst l):=Dx fun v hv=>ok_bd _ v (h v hv)
section
variable {G:Nat→List Nd} {Suf:List (List Nat)} {n m:Nat}
theorem pt_key {c d:Nat} {s:V} (h:cfB G n c d=true) (hs:s∈shp G n c d):V.key n (pt n s)=true:=(pt_tm n s (Cs n h s hs)).key
theorem vz_pos:∀n v,Sh n v→1≤vz n v:=Sh.rec' (P:=fun n v=>1≤vz n v) (fun zz zz zz zz zz=>B2 1) fun zz zz zz zz zz zz zz zz=>L0 _
theorem Fk {xs ys:List Nat} {ks:List V} (h:∀p∈xs.zip ys,cfB G n p.1 p.2=true) (a:EY ks ((xs.zip ys).map fun p=>shp G n p.1 p.2)):ks.length=(xs.zip ys).length∧∀k∈ks,Sh n k:=by
 have q:=a.each (P:=Sh n) fun l hl x hx=>by
  refine BD (B5.mp hl) fun p hp hh2=>?_;obtain rfl:=hh2
  exact Cs n (h p hp) x hx
 rw[A4] at q;exact q
theorem spec_eq {a b z:Nat} {l:List V} (h:cfB G n a b=true) (h':cfB G m a b=true) (S:HA G n a b z l):HA G m a b z l:=⟨S.1,fun p=>(S.2 p).trans (by
 refine wg (shp_eq h h') ?_
 refine exists_congr fun s=>and_congr_right fun hs=>?_
 have q:=vz_eq n s (Cs n h s (by refine wg (shp_eq h h') ?_;exact hs)) (Cs m h' s hs)
 rw[q.1,q.2])⟩
theorem rspec_eq {xs ys:List Nat} {z:Nat} {l:List V} (h:∀p∈xs.zip ys,cfB G n p.1 p.2=true) (h':∀p∈xs.zip ys,cfB G m p.1 p.2=true) (S:Ds G n xs ys z l):Ds G m xs ys z l:=by
 have e:∀{β:Type} {f:List V→β},((xs.zip ys).map fun p=>f (shp G n p.1 p.2))=(xs.zip ys).map fun p=>f (shp G m p.1 p.2):=fun {β f}=>H4 fun p hp=>congrArg f (shp_eq (h p hp) (h' p hp))
 have e0:((xs.zip ys).map fun p=>shp G n p.1 p.2)=(xs.zip ys).map fun p=>shp G m p.1 p.2:=e (f:=fun l=>l)
 refine ⟨e (f:=T0)▸S.1,fun v=>(S.2 v).trans (exists_congr fun ks=>?_)⟩
 refine wg e0 ?_
 refine and_congr_right fun a=>?_
 have q':=Fk h' a
 have q:=Fk h (by refine wg e0 ?_;exact a)
 rw[H4 fun k hk=>(vz_eq n k (q.2 k hk) (q'.2 k hk)).1,H4 fun k hk=>(vz_eq n k (q.2 k hk) (q'.2 k hk)).2]
theorem GK {p:V×V} {i:Nat} (h:KEnt G p):V.bd i p.2:=by
 refine ex3 h fun n a b hh=>?_;clear h;obtain ⟨z,l,_,h2,_,rfl,S⟩:=hh
 exact bd_lst (n:=n) fun v hv=>by refine Bo ((S.2 v).mp hv) fun s hs zz hh3=>?_;obtain rfl:=hh3;exact pt_key h2 hs
theorem row_key {xs ys:List Nat} {ks:List V} (h:∀p∈xs.zip ys,cfB G n p.1 p.2=true) (a:EY ks ((xs.zip ys).map fun p=>shp G n p.1 p.2)):V.key (n+1) (.tup (ks.map (pt n)))=true:=E0.mpr fun x hx=>by
 refine BD (B5.mp hx) fun k hk hh2=>?_;obtain rfl:=hh2
 exact (pt_tm n k ((Fk h a).2 k hk)).key
theorem Gh {xs ys:List Nat} {z:Nat} {l:List V} (h:∀p∈xs.zip ys,cfB G n p.1 p.2=true) (S:Ds G n xs ys z l):∀v∈l,V.key (n+1) v=true:=fun v hv=>by refine Bo ((S.2 v).mp hv) fun ks a zz hh3=>?_;obtain rfl:=hh3;exact row_key h a
theorem IT {p:V×V} {i:Nat} (h:REnt G Suf p):V.bd i p.2:=by
 refine ex3 h fun n xs ys hh=>?_;clear h;obtain ⟨z,l,_,h2,_,_,_,rfl,S⟩:=hh
 exact bd_lst (Gh h2 S)
end
theorem cut_upd {C:HC} {hp t:Hp} {k r r1:List (V×V)} {v v':V} (ne:C.k≠C.r) (hk1:C.k<hp.length) (hr1:C.r<hp.length) (hk:∀p∈k,V.bd hp.length p.2) (hr:r.length=r1.length∧∀(j:Nat) p,r[j]?=some p→∃x,r1[j]?=some (p.1,x)∧Cv hp.length (upd C hp k r++t) p.2 x) (hv:Cv hp.length (upd C hp k r++t) v v'):
  Cut hp (upd C hp k r++t) (upd C hp k r1) v v':=by
 have ap:∀{i},i<hp.length→Hp.f (upd C hp k r++t) i=(upd C hp k r).f i:=fun {i} h=>by refine wg (CM ..) (wg (CM ..) ?_);exact J7 (by refine wg CL ?_;exact h)
 refine ⟨CL,fun i hi=>?_,hv⟩
 refine wg (ap hi) ?_
 by_cases e:i=C.r
 ·refine wg e ?_;exact .inr ⟨true,r,r1,HX hr1,HX hr1,hr⟩
 ·by_cases e2:i=C.k
  ·refine wg e2 ?_;exact .inr ⟨true,k,k,HW ne hk1,HW ne hk1,rfl,fun j p hj=>⟨p.2,hj,.inl ⟨rfl,hk p (B9 hj)⟩⟩⟩
  ·exact .inl ⟨(Bb (N6 e)).trans (Bb (N6 e2)),(Bb (N6 e)).trans (Bb (N6 e2))⟩
theorem same_bd {n:Nat} {hp:Hp} {r:List (V×V)} (h:∀p∈r,V.bd n p.2):r.length=r.length∧∀(j:Nat) p,r[j]?=some p→∃x,r[j]?=some (p.1,x)∧Cv n hp p.2 x:=⟨rfl,fun j p hj=>⟨p.2,hj,.inl ⟨rfl,h p (B9 hj)⟩⟩⟩
section
variable (sc:Addr) (ns:List Int) (C:HC) (G:Nat→List Nd) (Suf:List (List Nat)) (dom:Nat→Prop)
noncomputable def ShC (m:Nat):Prop:=∀{n a b z:Nat} {zi:Int} {hp:Hp} {k r:List (V×V)} {K:KV},zi=z→n≤7→cfB G n a b=true→dom a→dom b→1≤z∧z<11→2*z+4≤m→Bs sc ns C G dom hp→hp.f C.k=some (.dict true k)→hp.f C.r=some (.dict true r)→CX G Suf k r→
 (∀k' r' l hp',hp'=upd C hp k' r'→CX G Suf k' r'→HA G n a b z l→K (.lst l) hp')→Phi sc ns m 256 [.loc C.h,iN a,iN b,.int zi] hp K
noncomputable def SpC (m:Nat):Prop:=∀{n z:Nat} {zi:Int} {xs ys:List Nat} {hp:Hp} {k r:List (V×V)} {K:KV},zi=z→n≤6→(∀p∈xs.zip ys,cfB G n p.1 p.2=true)→(∀x∈xs,dom x)→(∀x∈ys,dom x)→xs.length=ys.length→xs.length≤20→(xs≠[]→xs∈Suf∧ys∈Suf)→DY ((xs.zip ys).map fun p=>(shp G n p.1 p.2).length)≤59→z<11→2*z+5≤m→
 Bs sc ns C G dom hp→hp.f C.k=some (.dict true k)→hp.f C.r=some (.dict true r)→CX G Suf k r→(∀k' r' l hp',hp'=upd C hp k' r'→CX G Suf k' r'→Ds G n xs ys z l→K (.lst l) hp')→Phi sc ns m 261 [.loc C.h,.tup (xs.map iN),.tup (ys.map iN),.int zi] hp K
end
theorem Fl {sc:Addr} {ns:List Int} {m a:Nat} {s:V} {o:PO} {hp:Hp} {K:KV} (h:hp.f a=some o) (hz:(∃l,o= .list l∧l.length≤2000)∨∃b d,o= .dict b d∧d.length≤2000) (k:K .none hp):Phi sc ns (m+1) 249 [s,.loc a] hp K:=by
 have big:∀{n:Nat},n≤2000→(decide ((2000:Int)<(n:Int))=true)→False:=fun h e=>j9.mpr (T9.mpr h) (of_decide_eq_true e)
 rcases hz with ⟨l,rfl,hz⟩ | ⟨b,d,rfl,hz⟩
 ·exact A0 rfl (DX h (A0 (up hz rfl) (A0 (fun e=>(big hz e).elim) fun zz=>k)))
 ·exact A0 rfl (len_d h (A0 (up hz rfl) (A0 (fun e=>(big hz e).elim) fun zz=>k)))
noncomputable def Dt (p v:V):V:=match v with
 | .tup l=>.tup (p::l)
 | v=>v
theorem GL {hp:Hp} {K:KV} {v:V} (hv:V.bd hp.length v) (k:K v hp):Do hp K v hp:=⟨v,hp,⟨rfl,fun zz zz=>.inl ⟨rfl,rfl⟩,.inl ⟨rfl,hv⟩⟩,k⟩
theorem IU {b:Bool} {n:Nat} {l:List Nat}:(l.map iN).all (V.ok b n)=true:=E0.mpr fun x hx=>by
 refine BD (B5.mp hx) fun i zz hh2=>?_;obtain rfl:=hh2
 cases n <;> rfl
theorem iN_inj {l l':List Nat} (h:l.map iN=l'.map iN):l=l':=List.map_inj_right (fun a b e=>L8 (V.int.inj e)) |>.mp h
noncomputable def Fm (xs ys:List Nat) (z:Nat):V:= .tup [.tup (xs.map iN),.tup (ys.map iN),iN z]
theorem rkey_ok {xs ys:List Nat} {z n:Nat}:V.key (n+2) (Fm xs ys z)=true:=by
 show ((BA _ _)&&((BA _ _)&&(true&&true)))=true
 refine wg IU (wg IU ?_);rfl
section
variable {sc:Addr} {ns:List Int} {C:HC} {G:Nat→List Nd} {Suf:List (List Nat)} {dom:Nat→Prop}
theorem CX.rok {k r:List (V×V)} (T:CX G Suf k r) (hS:Suf.length≤19) {xs ys:List Nat} {z:Nat}:Br r (Fm xs ys z):=⟨rkey_ok (n:=6),fun p hp=>(T.rlen hS).2 p hp,(T.rlen hS).1⟩
theorem Dg {x:V} {ks:List V} {l:List V} {ls:List (List V)}:EY (x::ks) (l::ls)↔x∈l∧EY ks ls:=⟨fun x=>x.elim fun zz x=>x.elim fun zz x=>by cases x.1;exact x.2,fun h=>⟨l,ls,rfl,h.1,h.2⟩⟩
theorem all2_nil {ks:List V}:EY ks []↔ks=[]:=by
 cases ks with
 | nil=>exact ⟨fun zz=>rfl,fun zz=>rfl⟩
 | cons x ks=>exact ⟨fun x=>x.elim fun zz x=>x.elim fun zz x=>(nomatch x.1),fun e=>(nomatch e)⟩
noncomputable def cle (G:Nat→List Nd) (n x y f:Nat):Nat:=((shp G n x y).filter fun s=>decide (vz n s≤f)).length
theorem flt_add {α:Type} {p q r:α→Bool} (h:∀s,(p s).toNat+(q s).toNat≤(r s).toNat):∀L:List α,(L.filter p).length+(L.filter q).length≤(L.filter r).length:=by
 intro L
 induction L with
 | nil=>exact B2 _
 | cons s L ih=>
  have e:∀p:α→Bool,((s::L).filter p).length=(p s).toNat+(L.filter p).length:=fun p=>by
   refine wg List.filter_cons ?_
   cases p s with
   | true=>exact P7 _ 1
   | false=>exact (I0 _).symm
  refine wg (e p) (wg (e q) (wg (e r) (wg (Nat.add_add_add_comm ..) ?_)))
  exact U8 (h s) ih
theorem le_two {v f:Nat}:(decide (v≤f)).toNat+(decide (v=f+1)).toNat≤(decide (v≤f+1)).toNat:=by
 by_cases a:v≤f
 ·refine wg (decide_eq_true a) (wg (decide_eq_false fun e:v=f+1=>P6 f (A3 (B3 e.symm) a)) (wg (decide_eq_true (E7 a)) ?_))
  exact B2 1
 ·refine wg (decide_eq_false a) ?_
  by_cases b:v=f+1
  ·refine wg (decide_eq_true b) (wg (decide_eq_true (B3 b)) ?_)
   exact B2 1
  ·refine wg (decide_eq_false b) ?_
   exact E2 _
theorem cle_step {n x y f:Nat} {l:List V} (S:HA G n x y (f+1) l):cle G n x y f+l.length≤cle G n x y (f+1):=
 A3 (B7 (A3 (FD (m:=((shp G n x y).filter fun s=>decide (vz n s=f+1)).map (pt n)) S.1 fun p hp=>by
  refine Bo ((S.2 p).mp hp) fun s hs e hh3=>?_;obtain rfl:=hh3
  exact H1 (AG.mpr ⟨hs,decide_eq_true e⟩)) (B3 (A4 _))) _) (flt_add (fun s=>le_two) _)
theorem cle_all {n x y f:Nat}:cle G n x y f≤(shp G n x y).length:=s9 ..
noncomputable def RowE (G:Nat→List Nd) (n x y:Nat) (xs ys:List Nat) (z f:Nat) (v:V):Prop:=∃s∈shp G n x y,vz n s≤f∧∃ks,EY ks ((xs.zip ys).map fun p=>shp G n p.1 p.2)∧vz n s+(ks.map (vz n)).sum=z∧v= .tup (pt n s::ks.map (pt n))
structure Rws (G:Nat→List Nd) (n x y:Nat) (xs ys:List Nat) (z f:Nat) (acc:List V):Prop where
 zz:acc.length≤cle G n x y f*DY ((xs.zip ys).map fun p=>(shp G n p.1 p.2).length)
 ee:∀v,v∈acc↔RowE G n x y xs ys z f v
theorem sumz {z f a b:Nat} (hf:f+1≤z) (e:a=f+1):a+b=z↔b=z - (f+1):=by
 subst e
 exact ⟨fun q=>q▸(V0 ..).symm,fun q=>q▸g6 hf⟩
theorem RowE.up {n x y z f:Nat} {xs ys:List Nat} {v:V} (h:RowE G n x y xs ys z f v):RowE G n x y xs ys z (f+1) v:=h.imp fun s q=>⟨q.1,E7 q.2.1,q.2.2⟩
theorem RowE.new {n x y z f:Nat} {xs ys:List Nat} {late:List V} {v:V} (R:Ds G n xs ys (z - (f+1)) late) (hf:f+1≤z) {C:Prop} (h:RowE G n x y xs ys z (f+1) v) (a:RowE G n x y xs ys z f v→C) (b:∀s∈shp G n x y,vz n s=f+1→∀ks:List V,V.tup (ks.map (pt n))∈late→v= .tup (pt n s::ks.map (pt n))→C):C:=
 h.elim fun s q=>(AQ f (vz n s)).elim (fun l=>have e:=L9 q.2.1 l;q.2.2.elim fun ks w=>b s q.1 e ks ((R.2 _).mpr ⟨ks,w.1,(sumz hf e).mp w.2.1,rfl⟩) w.2.2) fun l=>a ⟨s,q.1,l,q.2.2⟩
theorem Rws.step {n x y z f:Nat} {xs ys:List Nat} {acc sl late:List V} (h:Rws G n x y xs ys z f acc) (S:HA G n x y (f+1) sl) (R:Ds G n xs ys (z - (f+1)) late) (hf:f+1≤z):Rws G n x y xs ys z (f+1) (acc++sl.flatMap fun p=>late.map (Dt p)):=
 ⟨A3 (B3 (by exact wg A7 (wg (EH (n:=late.length) fun p zz=>A4 _) rfl))) (A3 (U8 h.zz (i8 _ R.1)) (A3 (B3 (Nat.add_mul ..).symm) (U7 _ (cle_step S)))),fun v=>C5.trans ⟨fun m=>m.elim (fun m=>((h.ee v).mp m).up) fun m=>by
  refine BD (H6.mp m) fun p hp m=>?_
  refine BD (B5.mp m) fun v' hv' hh2=>?_;obtain rfl:=hh2
  refine Bo ((S.2 p).mp hp) fun s hs e1 hh3=>?_;obtain rfl:=hh3
  refine Bo ((R.2 v').mp hv') fun ks a e2 hh3=>?_;obtain rfl:=hh3
  exact ⟨s,hs,B3 e1,ks,a,(sumz hf e1).mpr e2,rfl⟩,fun m=>m.new R hf (fun m=>.inl ((h.ee v).mpr m)) fun s hs e ks hk ev=>.inr (H6.mpr ⟨pt n s,(S.2 _).mpr ⟨s,hs,e,rfl⟩,B5.mpr ⟨_,hk,ev.symm⟩⟩)⟩⟩
theorem Rws.skip {n x y z f:Nat} {xs ys:List Nat} {acc:List V} (h:Rws G n x y xs ys z f acc) (R:Ds G n xs ys (z - (f+1)) []) (hf:f+1≤z):Rws G n x y xs ys z (f+1) acc:=
 ⟨A3 h.zz (U7 _ (A3 (C0 _ _) (flt_add (fun s=>le_two) _))),fun v=>(h.ee v).trans ⟨fun m=>m.up,fun m=>m.new R hf id fun s hs e ks hk ev=>nomatch hk⟩⟩
theorem Ce {A t:Hp} {o:PO} {n:Nat} (h:A.length=n):Hp.f (A++o::t) n=some o:=h▸Bn
theorem IV {A t:Hp} {o o':PO} {n:Nat} (h:A.length=n):Hp.put (A++o::t) n o'=A++o'::t:=h▸Cr
theorem IW {hp t:Hp} {k r k' r':List (V×V)} (B:Bs sc ns C G dom hp):upd C (upd C hp k r++t) k' r'=upd C hp k' r'++t:=by exact wg (upd_app (by rw[CL];exact B.lk) (by rw[CL];exact B.lr)) (wg (upd_upd B.ne.1) rfl)
theorem upd_put {hp t:Hp} {k r r':List (V×V)} (B:Bs sc ns C G dom hp):(upd C hp k r++t).put C.r (.dict true r')=upd C hp k r'++t:=by
 refine wg (GE (by rw[CL];exact B.lr)) ?_
 unfold upd
 exact wg EP rfl
theorem upd_putk {hp t:Hp} {k r k':List (V×V)} (B:Bs sc ns C G dom hp):(upd C hp k r++t).put C.k (.dict true k')=upd C hp k' r++t:=by
 refine wg (GE (by rw[CL];exact B.lk)) ?_
 unfold upd
 simp only[Bz]
 exact wg (List.set_comm _ _ B.ne.1.symm) (wg (Ax ..) rfl)
end
section
variable {l:List (V×V)} {k v v':V}
theorem putD_cases:(∃j p,at' l k=some j∧l[j]?=some (k,p)∧∀v,Bc l k v=l.set j (k,v))∨(k∉l.map (·.1)∧∀v,Bc l k v=l++[(k,v)]):=by
 by_cases h:k∈l.map (·.1)
 ·left
  unfold Bc
  cases e:at' l k with
  | none=>
   refine BD (B5.mp h) fun p hp hh2=>?_;obtain rfl:=hh2
   have:=Y3.mp e p hp
   exact absurd rfl (of_decide_eq_false this)
  | some j=>
   refine BD (J4.mp e) fun hj e1 zz=>?_
   have e1:=of_decide_eq_true e1
   have e2:l[j]?=some (k,l[j].2):=by exact wg (B4 hj) (wh e1 rfl)
   refine ⟨j,l[j].2,rfl,e2,fun v=>?_⟩
   show l.modify j (fun p=>(p.1,v))=_
   refine p6 fun i=>?_
   refine wg (List.getElem?_modify ..) (wg q9 ?_)
   split
   ·rename_i hi
    subst hi
    refine wg e2 ?_;rfl
   ·cases l[i]? <;> rfl
 ·exact .inr ⟨h,fun v=>Cd h⟩
theorem putD_mem {p:V×V} (h:p∈Bc l k v):p=(k,v)∨p∈l:=by
 rcases putD_cases (l:=l) (k:=k) with ⟨j,q,_,_,e⟩ | ⟨_,e⟩
 ·rw[e] at h
  exact (List.mem_or_eq_of_mem_set h).symm
 ·rw[e] at h
  exact (C5.mp h).symm.imp (fun m=>A8.mp m) id
theorem Da (h:(l.map (·.1)).Nodup):((Bc l k v).map (·.1)).Nodup:=by
 rcases putD_cases (l:=l) (k:=k) with ⟨j,q,_,e2,e⟩ | ⟨n,e⟩
 ·refine wg (e ..) (wg AT ?_)
  have:(l.map (·.1)).set j k=l.map (·.1):=by
   refine ex1 (B6.mp e2) fun hj e3=>?_
   have:k=(l.map (·.1))[j]'(by refine wg (A4 ..) ?_;exact hj):=by exact wg (M4 ..) (wg e3 rfl)
   conv=>lhs;rw[this]
   exact t4 _
  refine wg this ?_;exact h
 ·refine wg (e ..) (wg G5 ?_)
  exact Y6.mpr ⟨h,by simp,fun a ha b hb q=>n ((A8.mp hb:b=k)▸q▸ha)⟩
theorem Ct (h:(l.map (·.1)).Nodup):BR (Bc l k v) k=some v:=by
 refine Cc (Da h) ?_
 rcases putD_cases (l:=l) (k:=k) with ⟨j,q,_,e2,e⟩ | ⟨n,e⟩
 ·refine wg (e ..) ?_
  exact B9 (n5 (B6.mp e2).1)
 ·refine wg (e ..) ?_;exact B8 _ (.head _)
theorem putD_two {P:V→V→Prop} (h:∀p∈l,P p.2 p.2) (hv:P v v'):(Bc l k v).length=(Bc l k v').length∧∀(j:Nat) p,(Bc l k v)[j]?=some p→∃x,(Bc l k v')[j]?=some (p.1,x)∧P p.2 x:=by
 rcases putD_cases (l:=l) (k:=k) with ⟨j,q,_,e2,e⟩ | ⟨n,e⟩
 ·refine wg (e ..) (wg (e ..) ?_)
  refine ⟨by exact wg O4 (wg O4 rfl),fun i p hp=>?_⟩
  rw[q9] at hp ⊢
  split at hp
  ·rename_i hij
   split at hp
   ·rename_i hl;cases hp;exact ⟨v',by exact wg (if_pos hij) (wg (if_pos hl) rfl),hv⟩
   ·cases hp
  ·rename_i hij;exact ⟨p.2,by refine wg (if_neg hij) ?_;exact hp,h p (B9 hp)⟩
 ·refine wg (e ..) (wg (e ..) ?_)
  refine ⟨by refine wg A7 (wg A7 ?_);rfl,fun i p hp=>?_⟩
  rw[List.getElem?_append] at hp ⊢
  split at hp
  ·rename_i hl;exact ⟨p.2,by refine wg (if_pos hl) ?_;exact hp,h p (B9 hp)⟩
  ·rename_i hl
   refine wg (if_neg hl) ?_
   cases q:i - l.length with
   | zero=>rw[q] at hp;cases hp;exact ⟨v',rfl,hv⟩
   | succ q'=>rw[q] at hp;cases hp
end
section
variable {sc:Addr} {ns:List Int} {C:HC} {G:Nat→List Nd} {Suf:List (List Nat)} {dom:Nat→Prop}
theorem FE {i j:Nat}:(decide (V.int (i:Int)=V.int (j:Int))^^false)=decide (i=j):=by
 refine wg (W7 ..) ?_
 exact decide_eq_decide.mpr ⟨fun e=>L8 (V.int.inj e),fun e=>by exact wg e rfl⟩
theorem nil_iff {n z:Nat}:Ds G n [] [] z (if z=0 then [V.tup []] else []):=by
 refine ⟨?_,fun v=>?_⟩
 ·show T0 _≤1
  split <;> decide
 ·refine Iff.trans ?_ (exists_congr fun ks=>and_congr_left fun zz=>all2_nil.symm)
  constructor
  ·intro m
   split at m
   ·rename_i e;exact ⟨[],rfl,e.symm,A8.mp m⟩
   ·cases m
  ·rintro ⟨_,rfl,e,rfl⟩
   have e:0=z:=e
   refine wg (if_pos e.symm) ?_;exact .head _
theorem Gi {n x y z N:Nat} {xs ys:List Nat} {acc:List V} (h:∀p∈(x::xs).zip (y::ys),cfB G n p.1 p.2=true) (hl:xs.length=ys.length) (hN:N=z+1 - (xs.length+1)) (R:Rws G n x y xs ys z N acc):Ds G n (x::xs) (y::ys) z acc:=by
 refine ⟨A3 R.zz (U7 _ cle_all),fun v=>(R.ee v).trans ⟨fun x=>x.elim fun s w=>w.2.2.elim fun ks z=>⟨s::ks,Dg.mpr ⟨w.1,z.1⟩,z.2⟩,fun w0=>?_⟩⟩
 refine Bo w0 fun ks a e q=>?_;clear w0
 cases ks with
 | nil=>cases a
 | cons s ks=>
  have a':=Dg.mp a
  have q2:=Fk (xs:=xs) (ys:=ys) (fun p hp=>h p (.tail _ hp)) a'.2
  have pos:∀{ks:List V},(∀k∈ks,Sh n k)→ks.length≤(ks.map (vz n)).sum:=by
   intro ks
   induction ks with
   | nil=>exact fun zz=>B2 _
   | cons k ks ih=>
    intro h
    have h1:=vz_pos n k (h k (.head _))
    have h2:=ih fun k hk=>h k (.tail _ hk)
    show ks.length+1≤vz n k+(ks.map (vz n)).sum
    exact A3 (B3 (P7 _ 1)) (U8 h1 h2)
  have p2:=pos q2.2
  have e:vz n s+(ks.map (vz n)).sum=z:=e
  rw[q2.1,j7,←hl,Nat.min_self] at p2
  exact ⟨s,a'.1,by refine wg hN (wg (Nat.succ_sub_succ ..) ?_);exact Nat.le_sub_of_add_le (A3 (B7 p2 _) (B3 e)),ks,a'.2,e,q⟩
theorem sub_i {z f:Nat} (h:f+1≤z):(z:Int) - ((f+1:Nat):Int)=((z - (f+1):Nat):Int):=(Int.ofNat_sub h).symm
theorem sub_n {z L:Nat}:((z:Int) - (L:Int)+2 - 1).toNat=z+1 - L:=(congrArg m4 ((Int.add_sub_assoc ..).trans (Int.add_right_comm (z:Int) (-(L:Int)) 1))).trans (Int.toNat_sub (z+1) L)
theorem sub_b {z L:Nat} (h:L≤20) (h2:z<11):-4096≤(z:Int) - (L:Int)+2∧(z:Int) - (L:Int)+2≤4096:=⟨by clear h2;lia,by clear h;lia⟩
theorem len_pre {a b c:List V} (e:a++b=c):a.length≤c.length:=e▸le_of_le_of_eq (C0 _ _) A7.symm
theorem len_suf {a b:List V}:b.length≤(a++b).length:=le_of_le_of_eq (D5 _ _) A7.symm
theorem sp_in {hp:Hp} {k r:List (V×V)} {acc late sl:List V} {m:Nat} {v1 v2 v3 v4 v6 x8:Option V} {N:Lc→Hp→Prop} {R:KV} (B:Bs sc ns C G dom hp) (zs:(acc++sl.flatMap fun p=>late.map (Dt p)).length≤59) (zl:∀u∈late,∃l:List V,u= .tup l∧l.length≤20)
  (kk:∀x8,N [some (.loc C.h),v1,v2,v3,v4,some (.loc hp.length),v6,some (.lst late),x8] (upd C hp k r++[.list (acc++sl.flatMap fun p=>late.map (Dt p))])):
  xloop (BE 8) (x_sp_i (Phi sc ns (m+1))) tt N R sl [some (.loc C.h),v1,v2,v3,v4,some (.loc hp.length),v6,some (.lst late),x8] (upd C hp k r++[.list acc]):=by
 have ul:(upd C hp k r).length=hp.length:=CL
 refine x_lv (g:=tt) (fun l Q=>∀a x8,a++l.flatMap (fun p=>late.map (Dt p))=acc++sl.flatMap (fun p=>late.map (Dt p))→Q [some (.loc C.h),v1,v2,v3,v4,some (.loc hp.length),v6,some (.lst late),x8] (upd C hp k r++[.list a])) (fun v l Z hZ a x8 e=>A0 trivial ?_) (fun a x8 e=>A0 trivial ?_) sl acc x8 rfl
 ·rw[M6,←E5] at e
  have w:(a++late.map (Dt v)).length≤59:=A3 (len_pre e) zs
  have w2:(late.map (Dt v)).length≤59:=A3 len_suf w
  rw[A4] at w2
  refine A0 (pL_ (Ce ul) trivial) (Dq (f:=Dt v) (A3 w2 (by decide)) trivial (fun u hu Z3 z3=>?_) ?_)
  ·refine BD (zl u hu) fun l hh1 q=>?_;obtain rfl:=hh1
   exact A0 (show 1+l.length≤4096 from A3 (B7 q 1) (by decide)) z3
  ·refine pL_ (Ce ul) (A0 (A3 (B3 A7.symm) (A3 w (by decide))) ?_)
   refine wg (IV ul) ?_
   refine A0 (at_ B.upd.app.i B.upd.app.n trivial) ?_
   show Phi sc ns (m+1) 249 [.loc C.h,.loc hp.length] _ fun zz hp=>Z _ hp
   exact Fl (Ce ul) (.inl ⟨_,rfl,A3 w (by decide)⟩) (hZ _ _ e)
 ·rw[List.flatMap_nil,D8] at e
  refine wg e ?_;exact kk x8
theorem sp_b {n x y z f m:Nat} {xs ys:List Nat} {hp:Hp} {k r:List (V×V)} {acc:List V} {v4 x7 x8:Option V} {Z:Lc→Hp→Prop} {R:KV} (hSh:ShC sc ns C G Suf dom (m+1)) (hSp:SpC sc ns C G Suf dom (m+1)) (hn:n≤6) (hcx:cfB G n x y=true) (hcr:∀p∈xs.zip ys,cfB G n p.1 p.2=true) (hdx:∀a∈x::xs,dom a) (hdy:∀a∈y::ys,dom a) (hl:xs.length=ys.length) (h20:xs.length≤19)
  (hSf:xs≠[]→xs∈Suf∧ys∈Suf) (hPr:DY ((xs.zip ys).map fun p=>(shp G n p.1 p.2).length)≤59) (hPx:(shp G n x y).length*DY ((xs.zip ys).map fun p=>(shp G n p.1 p.2).length)≤59) (hz:z<11) (hf:f+1≤z) (hm:2*z+4≤m+1) (B:Bs sc ns C G dom hp) (T:CX G Suf k r) (Rw:Rws G n x y xs ys z f acc)
  (hZ:∀k r acc x7 x8,CX G Suf k r→Rws G n x y xs ys z (f+1) acc→Z [some (.loc C.h),some (.tup ((x::xs).map iN)),some (.tup ((y::ys).map iN)),some (iN z),v4,some (.loc hp.length),some (iN (f+1)),x7,x8] (upd C hp k r++[.list acc])):
  x_sp_b (Phi sc ns (m+1)) [some (.loc C.h),some (.tup ((x::xs).map iN)),some (.tup ((y::ys).map iN)),some (iN z),v4,some (.loc hp.length),some (iN (f+1)),x7,x8] (upd C hp k r++[.list acc]) Z R:=by
 have gk:∀{k' r' t},Hp.f (upd C hp k' r'++t) C.k=some (.dict true k'):=fun {k' r' t}=>BT (HW B.ne.1 B.lk)
 have gr:∀{k' r' t},Hp.f (upd C hp k' r'++t) C.r=some (.dict true r'):=fun {k' r' t}=>BT (HX B.lr)
 have zx:(xs.map iN).length≤19:=by refine wg (A4 ..) ?_;exact h20
 have zy:(ys.map iN).length≤19:=by refine wg (A4 ..) (wh hl ?_);exact h20
 have fz:2*(f+1)≤2*z:=i8 2 hf
 have ez:z - (f+1)+(f+1)=z:=Q5 hf
 have fm:2*(z - (f+1))+5≤m+1:=by clear fz hl h20 hn hz;lia
 refine A0 (at_ B.upd.app.i B.upd.app.n trivial) (A0 (A3 zx (by decide)) (A0 (A3 zy (by decide)) ?_))
 refine hSp (z:=z - (f+1)) (sub_i hf) hn hcr (fun a ha=>hdx a (.tail _ ha)) (fun a ha=>hdy a (.tail _ ha)) hl (E7 h20) hSf hPr (C2 (AW _ _) hz) fm B.upd.app gk gr T fun k2 r2 late hp2 eh T2 R2=>?_
 rw[IW B] at eh
 subst eh
 have lk:∀v∈late,V.key (n+1) v=true:=Gh hcr R2
 refine A0 ⟨E3.mpr ⟨rfl,E0.mpr fun v hv=>V.ok_up (b:=false) (c:=true) (fun e=>nomatch e) (n+1) v (lk v hv) 7 (B1 hn)⟩,rfl⟩ (A0 (fun e=>?_) fun e=>?_)
 ·refine A0 (at_ B.upd.app.i B.upd.app.n trivial) (A0 ⟨f7 (C2 zx (by decide)),H3 0⟩ (A0 ⟨f7 (C2 zy (by decide)),H3 0⟩ ?_))
  refine hSh (z:=f+1) rfl (E7 hn) hcx (hdx x (.head _)) (hdy y (.head _)) ⟨D5 1 f,C2 hf hz⟩ (A3 (G3 fz 4) hm) B.upd.app gk gr T2 fun k3 r3 sl hp3 eh T3 S3=>?_
  rw[IW B] at eh
  subst eh
  have Rw2:=Rw.step S3 R2 hf
  refine sp_in B (A3 Rw2.zz (A3 (U7 _ cle_all) hPx)) (fun u hu=>?_) fun x8=>hZ _ _ _ _ _ T3 Rw2
  refine Bo ((R2.2 u).mp hu) fun ks a zz hh3=>?_;obtain rfl:=hh3
  have q:=(Fk hcr a).1
  rw[j7] at q
  exact ⟨_,rfl,by refine wg (A4 ..) (wg q ?_);exact A3 (R9 _ _) (E7 h20)⟩
 ·have e:late=[]:=V.lst.inj (Dr e)
  subst e
  exact hZ _ _ _ _ _ T2 (Rw.skip R2 hf)
theorem sp_nil {z m:Nat} {hp:Hp} {s:V} {K:KV} (kk:K (.lst (if z=0 then [.tup []] else [])) hp):Phi sc ns (m+1) 261 [s,.tup [],.tup [],iN z] hp K:=by
 refine A0 rfl (A0 (A6 rfl) (A0 ⟨rfl,rfl⟩ (A0 (fun zz=>?_) fun e=>H0 (e.symm.trans (FE.trans rfl)))))
 refine A0 ⟨rfl,rfl⟩ (A0 (fun e=>?_) fun e=>?_)
 ·rw[if_pos (of_decide_eq_true (FE.symm.trans e):z=0)] at kk
  exact GL ⟨trivial,trivial⟩ kk
 ·rw[if_neg (of_decide_eq_false (FE.symm.trans e):¬z=0)] at kk
  exact GL trivial kk
theorem CX.rfind {k r:List (V×V)} {xs ys:List Nat} {n z:Nat} (T:CX G Suf k r) (h:Fm xs ys z∈r.map (·.1)) (hcf:∀p∈xs.zip ys,cfB G n p.1 p.2=true):∃l,(Fm xs ys z,V.lst l)∈r∧Ds G n xs ys z l:=by
 refine BD (B5.mp h) fun p hp' e3=>?_
 refine ex3 (T.re p hp') fun n' xs' ys' hh=>?_;obtain ⟨z',l,_,h2,_,_,_,rfl,S⟩:=hh
 injection e3 with e3
 injection e3 with e4 e3
 injection e3 with e5 e3
 injection e3 with e6 _
 cases iN_inj (V.tup.inj e4)
 cases iN_inj (V.tup.inj e5)
 cases L8 (V.int.inj e6)
 exact ⟨l,hp',rspec_eq h2 hcf S⟩
theorem sp_end {n z:Nat} {xs ys:List Nat} {hp:Hp} {k r:List (V×V)} {acc:List V} {v1 v2 v3 v6 v7 v8:Option V} {K:KV} (hS:Suf.length≤19) (hn:n≤6) (hcf:∀p∈xs.zip ys,cfB G n p.1 p.2=true) (sx:xs∈Suf) (sy:ys∈Suf) (hz:z<11) (B:Bs sc ns C G dom hp) (T:CX G Suf k r) (R:Ds G n xs ys z acc) (kk:∀r,CX G Suf k r→K (.lst acc) (upd C hp k r)):
  xseq (BO (BB 5) (De Em (xun (BM 264 2) (BB 0)) (BB 4))) BF [some (.loc C.h),v1,v2,v3,some (Fm xs ys z),some (.loc hp.length),v6,v7,v8] (upd C hp k r++[.list acc]) (fun lc hp'=>xseq (Ba (BJ CH (xun (BM 264 2) (BB 0)) (BB 4))) BF lc hp' (fun zz hp'=>Do hp K .none hp') (Do hp K)) (Do hp K):=by
 have gr:∀{r' t},Hp.f (upd C hp k r'++t) C.r=some (.dict true r'):=fun {r' t}=>BT (HX B.lr)
 have T2:CX G Suf k (Bc r (Fm xs ys z) (.lst acc)):=⟨T.kn,T.ke,Da T.rn,fun p hp=>(putD_mem hp).elim (fun q=>⟨n,xs,ys,z,acc,hn,hcf,sx,sy,hz,q,R⟩) (T.re p)⟩
 have cv:∀{r},Cv hp.length (upd C hp k r++[.list acc]) (.loc hp.length) (.lst acc):=fun {r}=>.inr ⟨_,acc,rfl,Ce CL,rfl,B2 _,Dx fun v hv=>ok_bd _ v (Gh hcf R v hv)⟩
 have two:=putD_two (k:=Fm xs ys z) (P:=Cv hp.length (upd C hp k (Bc r (Fm xs ys z) (.loc hp.length))++[.list acc])) (fun p hp=>.inl ⟨rfl,IT (T.re p hp)⟩) cv
 refine at_ B.upd.app.i B.upd.app.n (A0 rfl (pD_ gr (A0 (T.rok hS) ?_)))
 refine wg (upd_put B) ?_
 refine at_ B.upd.app.i B.upd.app.n (A0 rfl (pD_ gr (A0 ⟨(T.rok hS).y,fun p hp=>?_,?_⟩ (so_ (Ct T.rn) ?_))))
 ·exact (putD_mem hp).elim (fun q=>by exact wg q rfl) ((T.rok hS (xs:=xs) (ys:=ys) (z:=z)).d p)
 ·refine wg two.1 ?_;exact (T2.rlen hS).1
 exact ⟨.lst acc,upd C hp k _,cut_upd B.ne.1 B.lk B.lr (fun p hp=>GK (T.ke p hp)) two cv,kk _ T2⟩
theorem y_spread {m:Nat} (hSh:ShC sc ns C G Suf dom m) (hSp:SpC sc ns C G Suf dom m) (hS:Suf.length≤19) (hT:∀xs∈Suf,xs.tail≠[]→xs.tail∈Suf):SpC sc ns C G Suf dom (m+1):=by
 intro n z zi xs ys hp k r K hzi hn hcf hdx hdy hl h20 hSf hP hz hm B e1 e2 T kk
 subst hzi
 cases xs with
 | nil=>
  cases ys with
  | cons _ _=>cases hl
  | nil=>exact sp_nil (kk k r _ hp (Df e1 e2).symm T nil_iff)
 | cons x xs=>
 cases ys with
 | nil=>cases hl
 | cons y ys=>
 have zx:((x::xs).map iN).length≤20:=by refine wg (A4 ..) ?_;exact h20
 have ok:Br r (Fm (x::xs) (y::ys) z):=T.rok hS
 have ei:(!(at' r (Fm (x::xs) (y::ys) z)).isSome)= !decide (Fm (x::xs) (y::ys) z∈r.map (·.1)):=congrArg not (at_iff T.rn)
 refine A0 rfl (A0 (A3 zx (by decide)) (A0 ⟨rfl,rfl⟩ (A0 (fun e=>absurd (of_decide_eq_true (FE (j:=0).symm.trans e)) (Nat.succ_ne_zero _)) fun zz=>?_)))
 refine at_ B.i B.n (A0 rfl (pD_ e2 (A0 ok (A0 (fun zz=>?_) fun e=>?_))))
 ·-- it is made
  obtain ⟨m,rfl⟩:∃j,m=j+1:=⟨m - 1,(V1 (O3 (A9 (D5 2 (2*z+3)) hm))).symm⟩
  have hl':xs.length=ys.length:=Q3 hl
  refine an2 (hSf (fun e=>nomatch e)) fun sx sy=>?_
  have hcx:cfB G n x y=true:=hcf (x,y) (.head _)
  have hcr:∀p∈xs.zip ys,cfB G n p.1 p.2=true:=fun p hp=>hcf p (.tail _ hp)
  have px:1≤(shp G n x y).length:=by
   cases n with
   | zero=>cases hcx
   | succ n=>exact D5 1 _
  have hPr:=A3 (p7 _ px) hP
  have R0:Rws G n x y xs ys z 0 []:=⟨E2 _,fun v=>⟨fun h=>(nomatch h),fun x=>x.elim fun s w=>(Z2 _ (A3 (vz_pos n s (Cs n hcx s w.1)) w.2.1)).elim⟩⟩
  have hSf':xs≠[]→xs∈Suf∧ys∈Suf:=fun q=>⟨hT _ sx q,hT _ sy fun q2=>q (List.eq_nil_of_length_eq_zero (hl'.trans (congrArg T0 (show ys=[] from q2))))⟩
  refine A0 (A3 zx (by decide)) (A0 ⟨⟨by decide,by decide⟩,sub_b (by refine wg (A4 ..) ?_;exact h20) hz⟩ ?_)
  refine wg sub_n (wg (A4 ..) ?_)
  show xloop (BE 6) (x_sp_b _) tt _ _ _ _ (hp++[PO.list []])
  refine wg (show hp++[PO.list []]=upd C hp k r++[.list []] by rw[Df e1 e2]) ?_
  refine x_rg (g:=tt) (fun d f Q=>∀k' r' acc x6 x7 x8,f+d=z+1 - (xs.length+1)→CX G Suf k' r'→Rws G n x y xs ys z f acc→Q [some (.loc C.h),some (.tup ((x::xs).map iN)),some (.tup ((y::ys).map iN)),some (iN z),some (Fm (x::xs) (y::ys) z),some (.loc hp.length),x6,x7,x8] (upd C hp k' r'++[.list acc])) (fun d f Z hZ k' r' acc x6 x7 x8 e T Rw=>A0 trivial ?_) (fun f k' r' acc x6 x7 x8 e T Rw=>A0 trivial ?_) _ 0 k r [] none none none (I0 _) T R0
  ·have hf:f+1≤z:=by
    rw[Nat.succ_sub_succ] at e
    exact A3 (A3 (B7 (D5 1 d) f) (B3 e)) (AW _ _)
   exact sp_b hSh hSp hn hcx hcr hdx hdy hl' (D6 h20) hSf' hPr hP hz hf (D6 hm) B T Rw fun k r acc x7 x8 T Rw=>hZ _ _ _ _ _ _ ((N5 f 1 d).trans e) T Rw
  ·cases (show f=z+1 - (xs.length+1) from e)
   exact sp_end hS hn hcf sx sy hz B T (Gi hcf hl' rfl Rw) fun r T=>kk _ _ _ _ rfl T (Gi hcf hl' rfl Rw)
 ·-- it is there
  have e:decide (Fm (x::xs) (y::ys) z∈r.map (·.1))=true:=by
   have:=ei.symm.trans ((i9 _).symm.trans e)
   rwa [Bool.not_eq_false'] at this
  refine BD (T.rfind (of_decide_eq_true e) hcf) fun l hl S=>?_
  exact at_ B.i B.n (A0 rfl (pD_ e2 (A0 ok (so_ (Cc T.rn hl) (GL (IT (T.re _ hl)) (kk k r l hp (Df e1 e2).symm T S))))))
end
theorem pS_d {hp:Hp} {a:Nat} {d:List (V×V)} {kl:List V→Prop} {kd:List (V×V)→Prop} (h:hp.f a=some (.dict true d)) (q:kd d):pS (hp.f a) kl kd:=by unfold pS;refine wg h ?_;exact q
structure Ks (F:List (V×V)) (Q:V→Prop):Prop where
 n:(F.map (·.1)).Nodup
 m:∀v,v∈F.map (·.1)↔Q v
theorem Ks.z {F:List (V×V)} {Q:V→Prop} {l:List V} (h:Ks F Q) (q:∀v,Q v→v∈l):F.length≤l.length:=by
 have:=FD h.n fun v hv=>q v ((h.m v).mp hv)
 rwa [A4] at this
theorem Ks.add {F:List (V×V)} {Q:V→Prop} {k w:V} (h:Ks F Q):Ks (Bc F k w) fun v=>Q v∨v=k:=by
 refine ⟨Da h.n,fun v=>?_⟩
 rcases putD_cases (l:=F) (k:=k) with ⟨j,p,_,e2,e⟩ | ⟨_,e⟩
 ·have hk:k∈F.map (·.1):=H1 (f:=(·.1)) (B9 e2)
  have:(Bc F k w).map (·.1)=F.map (·.1):=by
   refine wg (e ..) (wg AT ?_)
   refine ex1 (B6.mp e2) fun hj e3=>?_
   have:k=(F.map (·.1))[j]'(by refine wg (A4 ..) ?_;exact hj):=by exact wg (M4 ..) (wg e3 rfl)
   conv=>lhs;rw[this]
   exact t4 _
  refine wg this ?_
  exact (h.m v).trans ⟨.inl,fun q=>q.elim id fun q=>(h.m v).mp (q▸hk)⟩
 ·refine wg (e ..) (wg G5 ?_);rewrite[C5]
  exact or_congr (h.m v) A8
theorem Ks.iff {F:List (V×V)} {Q Q':V→Prop} (h:Ks F Q) (q:∀v,Q v↔Q' v):Ks F Q':=⟨h.n,fun v=>(h.m v).trans (q v)⟩
theorem var_z:∀c:Nat,c<20→∀d:Nat,d<20→((Z9++C7 "?").length≤4096∧(Z9++C7 "?"++C7 (toString (c:Int))).length≤4096∧(Z9++C7 "?"++C7 (toString (c:Int))++C7 "/").length≤4096)∧(Fi c d).length≤4096:=by decide+kernel
section
variable {sc:Addr} {ns:List Int} {C:HC} {G:Nat→List Nd} {Suf:List (List Nat)} {dom:Nat→Prop}
noncomputable def cel (G:Nat→List Nd) (n z:Nat) (one other:Nd) (v:V):Prop:=sameN one other=true∧∃ks,EY ks ((one.2.zip other.2).map fun p=>shp G n p.1 p.2)∧(ks.map (vz n)).sum+1=z∧v= .tup (.str (opN one.1)::ks.map (pt n))
theorem IX {n a b z:Nat} {v:V}:(∃s∈shp G (n+1) a b,vz (n+1) s=z∧v=pt (n+1) s)↔(z=1∧v= .tup [.str (Fi a b)])∨∃one∈G a,∃other∈G b,cel G n z one other v:=by
 constructor
 ·rintro ⟨s,hs,e,rfl⟩
  rcases mem_shp.mp hs with rfl | ⟨one,m1,other,m2,e1,ks,a,rfl⟩
  ·exact .inl ⟨e.symm,rfl⟩
  ·exact .inr ⟨one,m1,other,m2,e1,ks,a,e,rfl⟩
 ·rintro (⟨e,rfl⟩ | ⟨one,m1,other,m2,e1,ks,a,e,rfl⟩)
  ·exact ⟨_,mem_shp.mpr (.inl rfl),e.symm,rfl⟩
  ·exact ⟨_,mem_shp.mpr (.inr ⟨one,m1,other,m2,e1,ks,a,rfl⟩),e,rfl⟩
theorem cell_z {n a b:Nat} {one other:Nd} (h:cnt G (n+1) a b≤59) (m1:one∈G a) (m2:other∈G b) (e:sameN one other=true):DY ((one.2.zip other.2).map fun p=>(shp G n p.1 p.2).length)≤59:=by
 rw[←GI] at h
 have h:(AS _ _).length+1≤59:=h
 refine ex2 (Af m1) fun d1 r1 e1=>?_
 refine ex2 (Af m2) fun d2 r2 e2=>?_
 have h1:=EQ e1 (E8 h)
 have h2:=EQ e2 (A3 (D5 _ _) h1)
 rw[e] at h2
 have h2:_+(DE [.tup [.str (opN one.1)]] ((one.2.zip other.2).map fun p=>shp G n p.1 p.2)).length≤59:=h2
 rw[prod_len,G2] at h2
 have h3:_+1*_≤59:=h2
 rw[Nat.one_mul] at h3
 exact A3 (D5 _ _) h3
noncomputable def InS (G:Nat→List Nd) (n a b:Nat) (v:V):Prop:=v∈(shp G n a b).map (pt n)
theorem ins_z {n a b:Nat} (hcf:cfB G (n+1) a b=true) {F:List (V×V)} {Q:V→Prop} (h:Ks F Q) (q:∀v,Q v→InS G (n+1) a b v):F.length≤59∧∀p∈F,p.1.kind=2:=by
 refine ⟨?_,fun p hp=>?_⟩
 ·have:=h.z q
  rw[A4,GI] at this
  exact A3 this (Ee hcf).z
 ·refine BD (B5.mp (q _ ((h.m _).mp (H1 (f:=(·.1)) hp)))) fun s hs e=>?_
  refine CU (pt_tm _ s (Cs _ hcf s hs)) fun o ks e3 zz=>?_
  refine wh e (wg e3 ?_);rfl
theorem ins_k {n a b:Nat} (hcf:cfB G n a b=true) (hn:n≤8) {v:V} (h:InS G n a b v):V.key 8 v=true:=by
 refine BD (B5.mp h) fun s hs hh2=>?_;obtain rfl:=hh2
 exact V.ok_up (fun e=>e) n _ (pt_key hcf hs) 8 hn
theorem ins_c {n a b z:Nat} {one other:Nd} {v:V} (m1:one∈G a) (m2:other∈G b) (q:cel G n z one other v):InS G (n+1) a b v:=(IX.mpr (.inr ⟨one,m1,other,m2,q⟩)).elim fun s q=>q.2.2▸H1 q.1
theorem sh_in {n a b m:Nat} {one:Nd} {hp:Hp} {k r F:List (V×V)} {rows:List V} {Q:V→Prop} {v1 v2 v3 v4 v7 x8:Option V} {N:Lc→Hp→Prop} {R:KV} (B:Bs sc ns C G dom hp) (hcf:cfB G (n+1) a b=true) (hn:n+1≤8) (zo:one.2.length≤20) (hF:Ks F Q) (hQ:∀v,Q v→InS G (n+1) a b v) (hr:∀u∈rows,∃l:List V,u= .tup l∧l.length≤20∧InS G (n+1) a b (.tup (.str (opN one.1)::l)))
  (kk:∀F x8,Ks F (fun v=>Q v∨∃u∈rows,v=Dt (.str (opN one.1)) u)→N [some (.loc C.h),v1,v2,v3,v4,some (.loc hp.length),some (BI one),v7,x8] (upd C hp k r++[.dict true F])):
  xloop (BE 8) (x_sh_r (Phi sc ns (m+1))) tt N R rows [some (.loc C.h),v1,v2,v3,v4,some (.loc hp.length),some (BI one),v7,x8] (upd C hp k r++[.dict true F]):=by
 have ul:(upd C hp k r).length=hp.length:=CL
 have zo2:(V.str (opN one.1)::one.2.map iN).length≤4096:=by refine wg K9 (wg (A4 ..) ?_);exact A3 (B1 zo) (by decide)
 refine x_lv (g:=tt) (fun l P=>∀dn F x8,rows=dn++l→Ks F (fun v=>Q v∨∃u∈dn,v=Dt (.str (opN one.1)) u)→P [some (.loc C.h),v1,v2,v3,v4,some (.loc hp.length),some (BI one),v7,x8] (upd C hp k r++[.dict true F])) (fun u l Z hZ dn F x8 e hF=>A0 trivial ?_) (fun dn F x8 e hF=>A0 trivial ?_) rows [] F x8 rfl (hF.iff fun v=>⟨.inl,fun q=>q.elim id fun ⟨_,m,_⟩=>(nomatch m)⟩)
 ·have e2:rows=(dn++[u])++l:=e.trans (T8 ..)
  refine Bo (hr u (e▸B8 _ (.head _))) fun l' hh1 zl hu=>?_;obtain rfl:=hh1
  have inQ:∀{d:List V},(∀u∈d,u∈rows)→∀v,(Q v∨∃u∈d,v=Dt (.str (opN one.1)) u)→InS G (n+1) a b v:=fun hd v q=>q.elim (hQ v) fun ⟨u,m,e⟩=>by
   refine Bo (hr u (hd u m)) fun l hh1 zz h=>?_;obtain rfl:=hh1
   refine wg e ?_;exact h
  have w:=ins_z hcf hF (inQ fun u m=>e▸D0 _ m)
  have hF2:Ks (Bc F (.tup (.str (opN one.1)::l')) (.bool true)) fun v=>Q v∨∃u∈dn++[.tup l'],v=Dt (.str (opN one.1)) u:=hF.add.iff fun v=>by
   rw[or_assoc]
   refine or_congr f8 ⟨fun q=>q.elim (fun q=>q.imp fun u q=>⟨D0 _ q.1,q.2⟩) fun q=>⟨_,B8 _ (.head _),q⟩,fun q=>q.elim fun u q=>(C5.mp q.1).elim (fun m=>.inl ⟨u,m,q.2⟩) fun m=>.inr (q.2.trans (congrArg _ (A8.mp m)))⟩
  refine A0 ⟨zo2,H3 0⟩ (A0 (show 1+l'.length≤4096 from A3 (B7 zl 1) (by decide)) (pD_ (Ce ul) (A0 ⟨ins_k hcf hn hu,w.2,A3 w.1 (by decide)⟩ ?_)))
  refine wg (IV ul) ?_
  refine A0 (at_ B.upd.app.i B.upd.app.n trivial) ?_
  show Phi sc ns (m+1) 249 [.loc C.h,.loc hp.length] _ fun zz hp=>Z _ hp
  exact Fl (Ce ul) (.inr ⟨_,_,rfl,A3 (ins_z hcf hF2 (inQ fun u m=>e2▸D0 _ m)).1 (by decide)⟩) (hZ _ _ _ e2 hF2)
 ·rw[D8] at e
  subst e
  exact kk F x8 hF
theorem sh_c {n a b y m:Nat} {one other:Nd} {hp:Hp} {k r F:List (V×V)} {Q:V→Prop} {v1 v2 v4 x8:Option V} {Z:Lc→Hp→Prop} {R:KV} (hSp:SpC sc ns C G Suf dom (m+1)) (B:Bs sc ns C G dom hp) (T:CX G Suf k r) (hcf:cfB G (n+1) a b=true) (hn:n≤6) (m1:one∈G a) (m2:other∈G b) (D1:(∀k∈one.2,dom k)∧(one.2≠[]→one.2∈Suf)) (D2:(∀k∈other.2,dom k)∧(other.2≠[]→other.2∈Suf)) (hz:y<10) (hm:2*y+5≤m+1) (hF:Ks F Q) (hQ:∀v,Q v→InS G (n+1) a b v)
  (hZ:∀k r F x8,CX G Suf k r→Ks F (fun v=>Q v∨cel G n (y+1) one other v)→Z [some (.loc C.h),v1,v2,some (iN (y+1)),v4,some (.loc hp.length),some (BI one),some (BI other),x8] (upd C hp k r++[.dict true F])):
  x_sh_c (Phi sc ns (m+1)) [some (.loc C.h),v1,v2,some (iN (y+1)),v4,some (.loc hp.length),some (BI one),some (BI other),x8] (upd C hp k r++[.dict true F]) Z R:=by
 have Cf:=Ee hcf
 refine an2 (Cf.nc one m1) fun n1 n2=>?_
 refine an2 (Cf.nd other m2) fun n3 n4=>?_
 have zo:(one.2.map iN).length+1≤21:=by refine wg (A4 ..) ?_;exact B1 n2
 have zp:(other.2.map iN).length+1≤21:=by refine wg (A4 ..) ?_;exact B1 n4
 refine A0 ⟨A3 zo (by decide),H3 0⟩ (A0 (A3 zo (by decide)) (A0 ⟨A3 zp (by decide),H3 0⟩ (A0 (A3 zp (by decide)) (A0 ⟨op_cmp n1,op_cmp n3⟩ (A0 (fun es=>?_) fun es=>?_)))))
 ·have es:sameN one other=true:=(GJ n1 n3).symm.trans es
  have lens:=(same_eq es).2
  have kz:=Cf.k one m1 other m2 es
  refine A0 (at_ B.upd.app.i B.upd.app.n trivial) (A0 (A3 (D6 zo) (by decide)) (A0 (A3 (D6 zp) (by decide)) ?_))
  refine hSp (z:=y) (l7 (y:Int) 1) hn kz D1.1 D2.1 lens n2 (fun q=>⟨D1.2 q,D2.2 fun q2=>q (List.eq_nil_of_length_eq_zero (lens.trans (congrArg T0 q2)))⟩) (cell_z Cf.z m1 m2 es) (U0 hz (by decide)) hm B.upd.app (BT (HW B.ne.1 B.lk)) (BT (HX B.lr)) T fun k2 rr rows hp2 eh T2 R2=>?_
  rw[IW B] at eh
  subst eh
  have ro:∀u,u∈rows↔∃l,u= .tup l∧cel G n (y+1) one other (.tup (.str (opN one.1)::l)):=fun u=>(R2.2 u).trans ⟨fun ⟨ks,al,e,q⟩=>⟨_,q,es,ks,al,congrArg (·+1) e,rfl⟩,fun ⟨l,q,_,ks,al,e,q2⟩=>⟨ks,al,Q3 e,q.trans (congrArg V.tup (W2 (V.tup.inj q2)).2)⟩⟩
  refine sh_in (a:=a) (b:=b) B hcf (B1 (E7 hn)) n2 hF hQ (fun u hu=>?_) fun F x8 hF2=>hZ _ _ F x8 T2 (hF2.iff fun v=>or_congr f8 ⟨fun ⟨u,hu,q⟩=>?_,fun q=>?_⟩)
  ·refine BD ((ro u).mp hu) fun l hh1 q=>?_;obtain rfl:=hh1
   refine ⟨l,rfl,?_,ins_c m1 m2 q⟩
   refine an2 q fun zz hh=>?_;clear q;refine Bo hh fun ks al zz q=>?_;clear hh
   refine wg ((W2 (V.tup.inj q)).2) (wg (A4 ..) (wg ((Fk kz al).1) (wg j7 ?_)))
   exact A3 (R9 _ _) n2
  ·refine BD ((ro u).mp hu) fun l hh1 q2=>?_;obtain rfl:=hh1
   refine wg q ?_;exact q2
  ·refine an2 q fun e hh=>?_;clear q;refine Bo hh fun ks al e2 e3=>?_;clear hh
   exact ⟨.tup (ks.map (pt n)),(ro _).mpr ⟨_,rfl,e,ks,al,e2,rfl⟩,e3⟩
 ·have es:sameN one other=false:=(GJ n1 n3).symm.trans es
  exact hZ _ _ F x8 T (hF.iff fun v=>⟨.inl,fun q=>q.elim id fun q=>H0 (es.symm.trans q.1)⟩)
theorem sh_o {n a b y m:Nat} {one:Nd} {hp:Hp} {k r F:List (V×V)} {Q:V→Prop} {v1 v4 x7 x8:Option V} {Z:Lc→Hp→Prop} {R:KV} (hSp:SpC sc ns C G Suf dom (m+1)) (hD:∀c,dom c→∀nd∈G c,(∀k∈nd.2,dom k)∧(nd.2≠[]→nd.2∈Suf)) (B:Bs sc ns C G dom hp) (T:CX G Suf k r) (hcf:cfB G (n+1) a b=true) (hn:n≤6) (hda:dom a) (hdb:dom b) (m1:one∈G a) (hz:y<10) (hm:2*y+5≤m+1) (hF:Ks F Q) (hQ:∀v,Q v→InS G (n+1) a b v)
  (hZ:∀k r F x7 x8,CX G Suf k r→Ks F (fun v=>Q v∨∃other∈G b,cel G n (y+1) one other v)→Z [some (.loc C.h),v1,some (iN b),some (iN (y+1)),v4,some (.loc hp.length),some (BI one),x7,x8] (upd C hp k r++[.dict true F])):
  x_sh_o (Phi sc ns (m+1)) [some (.loc C.h),v1,some (iN b),some (iN (y+1)),v4,some (.loc hp.length),some (BI one),x7,x8] (upd C hp k r++[.dict true F]) Z R:=by
 refine at_ B.upd.app.i B.upd.app.n (A0 rfl (A0 B.upd.app.b ((B.upd.app.f fun zz zz zz h=>h).2 hdb (A3 (D5 5 (2*y)) hm) ?_)))
 refine Fh (g:=tt) (fun l P=>∀d2 F k r x7 x8,G b=d2++l→CX G Suf k r→Ks F (fun v=>Q v∨∃other∈d2,cel G n (y+1) one other v)→P [some (.loc C.h),v1,some (iN b),some (iN (y+1)),v4,some (.loc hp.length),some (BI one),x7,x8] (upd C hp k r++[.dict true F])) (fun other l Z hZ d2 F k r x7 x8 e T hF=>A0 trivial ?_) (fun d2 F k r x7 x8 e T hF=>A0 trivial ?_) (G b) [] F k r x7 x8 rfl T (hF.iff fun v=>⟨.inl,fun q=>q.elim id fun ⟨_,m,_⟩=>(nomatch m)⟩)
 ·have m2:other∈G b:=e▸B8 _ (.head _)
  refine sh_c hSp B T hcf hn m1 m2 (hD a hda one m1) (hD b hdb other m2) hz hm hF (fun v q=>q.elim (hQ v) fun ⟨o,h,q⟩=>ins_c m1 (e▸D0 _ h) q) fun k r F x8 T hF=>hZ _ F k r _ x8 (e.trans (T8 ..)) T (hF.iff fun v=>?_)
  rw[or_assoc]
  exact or_congr f8 ⟨fun q=>q.elim (fun q=>q.imp fun o q=>⟨D0 _ q.1,q.2⟩) fun q=>⟨other,B8 _ (.head _),q⟩,fun q=>q.elim fun o q=>(C5.mp q.1).elim (fun m=>.inl ⟨o,m,q.2⟩) fun m=>.inr (A8.mp m▸q.2)⟩
 ·rw[D8] at e
  subst e
  exact hZ k r F x7 x8 T hF
theorem CX.kfind {k r:List (V×V)} {n a b z:Nat} (T:CX G Suf k r) (h:V.tup [iN a,iN b,iN z]∈k.map (·.1)) (hcf:cfB G n a b=true):∃l,(V.tup [iN a,iN b,iN z],V.lst l)∈k∧HA G n a b z l:=by
 refine BD (B5.mp h) fun p hp' e3=>?_
 refine ex3 (T.ke p hp') fun n' a' b' hh=>?_;obtain ⟨z',l,_,h2,_,rfl,S⟩:=hh
 injection e3 with e3
 injection e3 with e4 e3
 injection e3 with e5 e3
 injection e3 with e6 _
 cases L8 (V.int.inj e4)
 cases L8 (V.int.inj e5)
 cases L8 (V.int.inj e6)
 exact ⟨l,hp',spec_eq h2 hcf S⟩
theorem sh_0 {a b z:Nat} {hp:Hp} {v0 v4 v5 v6 v7 v8:Option V} {K:KV} (ha:a<20) (hb:b<20) (kk:∀F,Ks F (fun v=>z=1∧v= .tup [.str (Fi a b)])→K (.loc hp.length) (hp++[.dict true F])):
  xite (xtb (BJ (Bl false) (BB 3) (BH (.int 1)))) (Bx [((BW [(GQ Z9 [(BH (.str "?")),(xun fmtA (BB 1)),(BH (.str "/")),(xun fmtA (BB 2))])]),(BH (.bool true)))]) (Bx []) [v0,some (iN a),some (iN b),some (iN z),v4,v5,v6,v7,v8] hp K:=by
 refine A0 ⟨rfl,rfl⟩ (A0 (fun e=>?_) fun e=>?_)
 ·have e:z=1:=of_decide_eq_true (FE.symm.trans e)
  refine an2 (var_z a ha b hb) fun hh0 q4=>?_;refine an3 hh0 fun q1 q2 q3=>?_;clear hh0
  have s20:∀{i:Nat},i<20→(i:Int)<1000000:=fun h=>K4.mpr (U0 h (by decide))
  refine A0 q1 (A0 ⟨C6 a,s20 ha⟩ (A0 q2 (A0 q3 (A0 ⟨C6 b,s20 hb⟩ (A0 q4 (pD_ Bn (A0 ⟨?_,nofun,E2 _⟩ ?_)))))))
  ·show (J3 _&&true)=true
   refine wg (Bool.and_true ..) ?_;exact (okS_ (EG a ha b hb).1).s
  ·refine wg Cr ?_
   exact kk _ ⟨O5.mpr ⟨nofun,N4⟩,fun v=>A8.trans ⟨fun q=>⟨e,q⟩,fun q=>q.2⟩⟩
 ·have e:z≠1:=of_decide_eq_false (FE.symm.trans e)
  exact kk [] ⟨N4,fun v=>⟨nofun,fun q=>(e q.1).elim⟩⟩
theorem sh_end {n a b z:Nat} {hp:Hp} {k r F:List (V×V)} {v1 v2 v3 v6 v7 v8:Option V} {K:KV} (hn:n+1≤7) (hcf:cfB G (n+1) a b=true) (hz:1≤z∧z<11) (B:Bs sc ns C G dom hp) (T:CX G Suf k r) (hF:Ks F fun v=>∃s∈shp G (n+1) a b,vz (n+1) s=z∧v=pt (n+1) s) (kk:∀k l,CX G Suf k r→HA G (n+1) a b z l→K (.lst l) (upd C hp k r)):
  xseq (BO (BK Ep [(BB 5)]) (De Em (xun (BM 264 1) (BB 0)) (BB 4))) BF [some (.loc C.h),v1,v2,v3,some (.tup [iN a,iN b,iN z]),some (.loc hp.length),v6,v7,v8] (upd C hp k r++[.dict true F]) (fun lc hp'=>xseq (Ba (BJ CH (xun (BM 264 1) (BB 0)) (BB 4))) BF lc hp' (fun zz hp'=>Do hp K .none hp') (Do hp K)) (Do hp K):=by
 have gk:∀{k' r' t},Hp.f (upd C hp k' r'++t) C.k=some (.dict true k'):=fun {k' r' t}=>BT (HW B.ne.1 B.lk)
 have ok:∀{k' r'},CX G Suf k' r'→Br k' (.tup [iN a,iN b,iN z]):=fun {k' r'} T=>⟨rfl,T.klen.2,T.klen.1⟩
 have inS:∀v,(∃s∈shp G (n+1) a b,vz (n+1) s=z∧v=pt (n+1) s)→InS G (n+1) a b v:=fun v ⟨s,hs,_,e⟩=>e▸H1 hs
 have w:=ins_z hcf hF inS
 have tm:∀v∈F.map (·.1),Tm (n+1) v:=fun v hv=>((hF.m v).mp hv).elim fun s q=>q.2.2▸pt_tm _ s (Cs _ hcf s q.1)
 refine pS_d (Ce CL) (A0 ⟨fun v hv=>?_,.inr fun v hv=>?_,fun v hv u hu=>tm_lt (tm v hv) (tm u hu),?_,hF.n⟩ fun l' pm asc=>?_)
 ·exact V.ok_up (b:=false) (c:=true) (fun e=>nomatch e) (n+1) _ (tm v hv).key 8 (E7 hn)
 ·refine CU (tm v hv) fun o ks e3 zz=>?_
  exact ⟨o,_,e3⟩
 ·refine wg (A4 ..) ?_;exact I7 w.1
 have SP:HA G (n+1) a b z l':=⟨pm.nodup_iff.mpr hF.n,fun v=>pm.mem_iff.trans (hF.m v)⟩
 have T2:CX G Suf (Bc k (.tup [iN a,iN b,iN z]) (.lst l')) r:=⟨Da T.kn,fun p hp=>(putD_mem hp).elim (fun q=>⟨n+1,a,b,z,l',hn,hcf,hz,q,SP⟩) (T.ke p),T.rn,T.re⟩
 refine at_ B.upd.app.i B.upd.app.n (A0 rfl (pD_ gk (A0 (ok T) ?_)))
 refine wg (upd_putk B) ?_
 refine at_ B.upd.app.i B.upd.app.n (A0 rfl (pD_ gk (A0 (ok T2) (so_ (Ct T.kn) ?_))))
 exact ⟨.lst l',upd C hp _ r,cut_upd B.ne.1 B.lk B.lr (fun p hp=>GK (T2.ke p hp)) (same_bd fun p hp=>IT (T.re p hp)) (.inl ⟨rfl,GK (p:=(.tup [iN a,iN b,iN z],.lst l')) ⟨n+1,a,b,z,l',hn,hcf,hz,rfl,SP⟩⟩),kk _ _ T2 SP⟩
theorem y_shared {m:Nat} (hSp:SpC sc ns C G Suf dom m) (hS:Suf.length≤19) (hD:∀c,dom c→∀nd∈G c,(∀k∈nd.2,dom k)∧(nd.2≠[]→nd.2∈Suf)):ShC sc ns C G Suf dom (m+1):=by
 intro n a b z zi hp k r K hzi hn hcf hda hdb hz hm B e1 e2 T kk
 subst hzi
 cases n with
 | zero=>cases hcf
 | succ n=>
 obtain ⟨m,rfl⟩:∃j,m=j+1:=⟨m - 1,(V1 (O3 (A9 (D5 2 (2*z+2)) hm))).symm⟩
 have ok:Br k (.tup [iN a,iN b,iN z]):=⟨rfl,T.klen.2,T.klen.1⟩
 refine A0 rfl (at_ B.i B.n (A0 rfl (pD_ e1 (A0 ok (A0 (fun zz=>?_) fun e=>?_)))))
 ·-- it is made
  have Cf:=Ee hcf
  refine sh_0 (z:=z) (C2 (E6 Cf.lc) (by decide)) (C2 (E6 Cf.ld) (by decide)) fun F hF=>?_
  refine wg (show hp++[PO.dict true F]=upd C hp k r++[.dict true F] by rw[Df e1 e2]) ?_
  obtain ⟨y,rfl⟩:∃y,z=y+1:=⟨z - 1,(V1 hz.1).symm⟩
  have hm:2*y+5≤m+1:=D6 hm
  refine at_ B.upd.app.i B.upd.app.n (A0 rfl (A0 B.upd.app.b ((B.upd.app.f fun zz zz zz h=>h).2 hda (A3 (D5 5 (2*y)) hm) ?_)))
  refine Fh (g:=tt) (fun l P=>∀dn F k r x6 x7 x8,G a=dn++l→CX G Suf k r→Ks F (fun v=>(y+1=1∧v= .tup [.str (Fi a b)])∨∃one∈dn,∃other∈G b,cel G n (y+1) one other v)→P [some (.loc C.h),some (iN a),some (iN b),some (iN (y+1)),some (.tup [iN a,iN b,iN (y+1)]),some (.loc hp.length),x6,x7,x8] (upd C hp k r++[.dict true F])) (fun one l Z hZ dn F k r x6 x7 x8 e T hF=>A0 trivial ?_) (fun dn F k r x6 x7 x8 e T hF=>A0 trivial ?_) (G a) [] F k r none none none rfl T (hF.iff fun v=>⟨.inl,fun q=>q.elim id fun ⟨_,m,_⟩=>(nomatch m)⟩)
  ·refine sh_o hSp hD B T hcf (D6 hn) hda hdb (e▸B8 _ (.head _)) (O3 hz.2) hm hF (fun v q=>?_) fun k r F x7 x8 T hF=>hZ _ F k r _ x7 x8 (e.trans (T8 ..)) T (hF.iff fun v=>?_)
   ·exact (IX.mpr (q.imp id fun q=>q.imp fun o q=>⟨e▸D0 _ q.1,q.2⟩)).elim fun s q=>q.2.2▸H1 q.1
   ·rw[or_assoc]
    exact or_congr f8 ⟨fun q=>q.elim (fun q=>q.imp fun o q=>⟨D0 _ q.1,q.2⟩) fun q=>⟨one,B8 _ (.head _),q⟩,fun q=>q.elim fun o q=>(C5.mp q.1).elim (fun m=>.inl ⟨o,m,q.2⟩) fun m=>.inr (A8.mp m▸q.2)⟩
  ·rw[D8] at e
   subst e
   exact sh_end hn hcf hz B T (hF.iff fun v=>IX.symm) fun k l T S=>kk _ _ _ _ rfl T S
 ·-- it is there
  have e:decide (V.tup [iN a,iN b,iN z]∈k.map (·.1))=true:=by
   have:=(congrArg not (at_iff T.kn)).symm.trans ((i9 _).symm.trans e)
   rwa [Bool.not_eq_false'] at this
  refine BD (T.kfind (of_decide_eq_true e) hcf) fun l hl S=>?_
  exact at_ B.i B.n (A0 rfl (pD_ e1 (A0 ok (so_ (Cc T.kn hl) (GL (GK (T.ke _ hl)) (kk k r l hp (Df e1 e2).symm T S))))))
theorem y_both (hS:Suf.length≤19) (hT:∀xs∈Suf,xs.tail≠[]→xs.tail∈Suf) (hD:∀c,dom c→∀nd∈G c,(∀k∈nd.2,dom k)∧(nd.2≠[]→nd.2∈Suf)):∀m,ShC sc ns C G Suf dom m∧SpC sc ns C G Suf dom m:=by
 intro m
 induction m with
 | zero=>exact ⟨fun zz zz zz zz zz zz h=>absurd h (Z2 _),fun zz zz zz zz zz zz zz zz zz zz h=>absurd h (Z2 _)⟩
 | succ m ih=>exact ⟨y_shared ih.2 hS hD,y_spread ih.1 ih.2 hS hT⟩
end
theorem pt_inj:∀n v,Sh n v→∀{w},Sh n w→pt n v=pt n w→v=w:=Sh.rec' (P:=fun n v=>∀{w},Sh n w→pt n v=pt n w→v=w) (fun n c d h1 h2 w hw e=>by
  rcases hw with ⟨c',d',rfl,h3,h4⟩ | ⟨o,ks,rfl,h3,h4,_⟩
  ·have e:V.tup [.str (Fi c d)]= .tup [.str (Fi c' d')]:=e
   injection e with e
   injection e with e _
   refine an2 (var_inj h1 h2 h3 h4 (V.str.inj e)) fun hh0 hh1=>?_;obtain rfl:=hh0;obtain rfl:=hh1
   rfl
  ·have e:V.tup [.str (Fi c d)]= .tup (.str o::ks.map (pt n)):=e
   injection e with e
   injection e with e _
   rw[←V.str.inj e,(okS_ (EG c h1 d h2).1).isQ] at h4
   cases h4) fun n o ks h1 h2 h3 h ih w hw e=>by
  rcases hw with ⟨c,d,rfl,h5,h6⟩ | ⟨o',ks',rfl,_,_,hz',h'⟩
  ·have e:V.tup (.str o::ks.map (pt n))=V.tup [.str (Fi c d)]:=e
   injection e with e
   injection e with e _
   rw[V.str.inj e,(okS_ (EG c h5 d h6).1).isQ] at h2
   cases h2
  ·have e':V.tup (.str o::ks.map (pt n))=V.tup (.str o'::ks'.map (pt n)):=e
   clear e
   injection e' with e
   injection e with e1 e2
   refine wg (V.str.inj e1) ?_
   refine congrArg (fun l=>V.tup (.str o'::l)) ?_
   clear h3 e1 hz'
   induction ks generalizing ks' with
   | nil=>exact (V7.mp e2.symm).symm
   | cons k ks ih2=>
    cases ks' with
    | nil=>cases e2
    | cons k' ks'=>
     refine an2 (W2 e2) fun e3 e4=>?_
     exact wg (ih k (.head _) (h' k' (.head _)) e3) (wg (ih2 (fun k hk=>h k (.tail _ hk)) (fun k hk=>ih k (.tail _ hk)) ks' (fun k hk=>h' k (.tail _ hk)) e4) rfl)
theorem idx_le {s:List V} {v:V}:s.idxOf v≤s.length:=List.idxOf_le_length
theorem nm_pa:∀n v,Sh n v→∀{s},Low s→s.length+vz n v≤60→Pa n (nm n v s).1∧(BU n (nm n v s).1).length=vz n v:=Sh.rec' (P:=fun n v=>∀{s},Low s→s.length+vz n v≤60→Pa n (nm n v s).1∧(BU n (nm n v s).1).length=vz n v) (fun n c d h1 h2 s hl hz=>by
  have hz:s.length+1≤60:=hz
  have w:=okS_ (IN (s.idxOf (.tup [.int c,.int d])) (C2 idx_le (up hz rfl))).1
  exact ⟨⟨_,[],rfl,⟨w.s,w.p,A3 w.z (by decide)⟩,fun zz=>rfl,E2 _,nofun⟩,rfl⟩) fun n o ks h1 h2 h3 h ih s hl hz=>by
  have hz:s.length+((ks.map (vz n)).sum+1)≤60:=hz
  have main:∀{ks:List V},(∀k∈ks,Sh n k)→(∀k∈ks,∀{s},Low s→s.length+vz n k≤60→Pa n (nm n k s).1∧(BU n (nm n k s).1).length=vz n k)→∀{s},Low s→s.length+(ks.map (vz n)).sum≤60→(∀x∈(nmL (nm n) ks s).1,Pa n x)∧((nmL (nm n) ks s).1.flatMap (BU n)).length=(ks.map (vz n)).sum:=by
   intro ks
   induction ks with
   | nil=>exact fun zz zz zz zz zz=>⟨nofun,rfl⟩
   | cons k ks ih2=>
    intro h ih s hl hz
    have hz:s.length+(vz n k+(ks.map (vz n)).sum)≤60:=hz
    have a:=ih k (.head _) hl (A3 (B7 (C0 _ _) _) hz)
    have z:=nm_len n k (h k (.head _)) (s:=s)
    have b:=ih2 (fun k hk=>h k (.tail _ hk)) (fun k hk=>ih k (.tail _ hk)) (nm_low n k (h k (.head _)) hl) (A3 (G3 z _) (A3 (B3 (M2 _ _ _)) hz))
    refine ⟨fun x hx=>(C4.mp hx).elim (fun e=>e▸a.1) (b.1 x),?_⟩
    show (AS (BU n) (_::_)).length=vz n k+(ks.map (vz n)).sum
    exact wg M6 (wg A7 (wg a.2 (wg b.2 rfl)))
  have q:=main h ih hl (up (D9 hz) rfl)
  refine ⟨⟨o,_,rfl,h1,fun e=>H0 (h2.symm.trans e),A3 (B3 ER) h3,q.1⟩,congrArg (·+1) q.2⟩
noncomputable def IY (n:Nat) (w t:V):Bool:=@decide (∃σ,Mt σ n w t) (M9 _)
theorem cov_ {n:Nat} {w t:V} {P:Bool→Prop} (q:P (IY n w t)):((∃σ,Mt σ n w t)→P true)∧((¬∃σ,Mt σ n w t)→P false):=by
 unfold IY at q
 refine ⟨fun h=>?_,fun h=>?_⟩
 ·rwa [@decide_eq_true _ (M9 _) h] at q
 ·rwa [@decide_eq_false _ (M9 _) h] at q
noncomputable def Pq (G:Nat→List Nd) (n a b most:Nat) (v:V):Prop:=∃s∈shp G n a b,vz n s≤most∧v=(nm n s []).1
section
variable {G:Nat→List Nd} {n a b most:Nat} {v:V}
theorem GM:Low []:=⟨nofun,N4⟩
theorem Pq.pa (h:Pq G n a b most v) (hcf:cfB G n a b=true) (hm:most≤60):Pa n v∧(BU n v).length≤60:=by
 refine Bo h fun s hs e hh3=>?_;clear h;obtain rfl:=hh3
 have q:=nm_pa n s (Cs n hcf s hs) GM (by refine wg List.length_nil (wg (I0 ..) ?_);exact A3 e hm)
 exact ⟨q.1,by refine wg q.2 ?_;exact A3 e hm⟩
theorem Pq.z {F:List (V×V)} {Q:V→Prop} (h:Ks F Q) (hq:∀v,Q v→Pq G n a b most v) (hcf:cfB G n a b=true):F.length≤59:=by
 have:=h.z (l:=(shp G n a b).map fun s=>(nm n s []).1) fun v hv=>by
  refine Bo (hq v hv) fun s hs zz hh3=>?_;obtain rfl:=hh3
  exact H1 (f:=fun s=>(nm n s []).1) hs
 rw[A4,GI] at this
 cases n with
 | zero=>cases hcf
 | succ n=>exact A3 this (Ee hcf).z
end
structure New (hp hp1:Hp) (ah an hb:Nat):Prop where
 i:hp1.f ah=some (.inst 264 an)
 n:hp1.f an=some (.ns 264 [.loc hb,.loc hp.length,.loc (hp.length+1)])
 k:hp1.f hp.length=some (.dict true [])
 r:hp1.f (hp.length+1)=some (.dict true [])
 z:hp1.length=hp.length+2
 a:Agr [an] hp hp1
theorem new_of {hp:Hp} {ah an hb w:Nat} {x y:V} (hi:hp.f ah=some (.inst 264 an)) (hn:hp.f an=some (.ns 264 [.loc hb,x,y])) (hw:w=hp.length+1):
  Hp.f ((hp++[PO.dict true []])++[PO.dict true []]) ah=some (.inst 264 an)∧Hp.f ((hp++[PO.dict true []])++[PO.dict true []]) an=some (.ns 264 [.loc hb,x,y])∧Hp.f (Hp.put ((hp++[PO.dict true []])++[PO.dict true []]) an (.ns 264 [.loc hb,.loc hp.length,y])) ah=some (.inst 264 an)∧
  Hp.f (Hp.put ((hp++[PO.dict true []])++[PO.dict true []]) an (.ns 264 [.loc hb,.loc hp.length,y])) an=some (.ns 264 [.loc hb,.loc hp.length,y])∧New hp (Hp.put (Hp.put ((hp++[PO.dict true []])++[PO.dict true []]) an (.ns 264 [.loc hb,.loc hp.length,y])) an (.ns 264 [.loc hb,.loc hp.length,.loc w])) ah an hb:=by
 subst hw
 have ne:an≠ah:=fun e=>by rw[e,hi] at hn;cases hn
 have la:an<hp.length:=B6.mp ((CM ..).symm.trans hn) |>.1
 have lh:ah<hp.length:=B6.mp ((CM ..).symm.trans hi) |>.1
 obtain ⟨H,hH⟩:∃H:Hp,H=(hp++[PO.dict true []])++[PO.dict true []]:=⟨_,rfl⟩
 have i2:H.f ah=some (.inst 264 an):=hH▸BT (BT hi)
 have n2:H.f an=some (.ns 264 [.loc hb,x,y]):=hH▸BT (BT hn)
 have z2:H.length=hp.length+2:=by refine wg hH (wg A7 (wg A7 ?_));rfl
 have k2:H.f hp.length=some (.dict true []):=hH▸BT Bn
 have r2:H.f (hp.length+1)=some (.dict true []):=hH▸Ce (by refine wg A7 ?_;rfl)
 have a2:∀i o,hp.f i=some o→H.f i=some o:=fun i o h=>hH▸BT (BT h)
 refine wh hH ?_
 have e1:∀{v w:PO} {o:Nat},o≠an→Hp.f (Hp.put (Hp.put H an v) an w) o=H.f o:=fun ho=>(Bb (N6 ho)).trans (Bb (N6 ho))
 exact ⟨i2,n2,(Bb ne).trans i2,CG (z2.symm▸Nat.lt_add_right 2 la),(e1 (N6 ne)).trans i2,CG (by refine wg DT (wg z2 ?_);exact Nat.lt_add_right 2 la),(e1 (J6 la)).trans k2,(e1 (J6 (M5 la))).trans r2,by refine wg DT (wg DT ?_);exact z2,fun i o hni ho=>(e1 fun e=>hni (e▸.head _)).trans (a2 i o ho)⟩
theorem keyed_ {κ:V→V} {fn:Fn} {L:List V} {hp:Hp} {a:Nat} {d:List (V×V)} {K:KV} (hd:hp.f a=some (.dict true d)) (hL:d.map (·.1)=L) (hz:L.length<60) (hf:∀v∈L,∀{K:KV},K (κ v) hp→fn [v] hp K) (hn:L.Nodup) (hi:∀v∈L,∀w∈L,κ v=κ w→v=w)
  (hc:∀v∈L,V.cmp 8 (κ v)=true∧Eo (κ v)) (ht:∀v∈L,∀w∈L,ltV (κ v) (κ w)≠none) (k:∀R,Seq κ L R→K (.lst R) hp):Ca fn [.loc a] hp K:=by
 unfold Ca
 exact y_keyed hd hL hz hf hn hi hc ht k
section
variable {sc:Addr} {ns:List Int} {C:HC} {G:Nat→List Nd} {Suf:List (List Nat)} {dom:Nat→Prop}
theorem Pq.kind {n a b most:Nat} (hcf:cfB G n a b=true) (hm:most≤60) {v:V} (h:Pq G n a b most v):v.kind=2:=by
 cases n with
 | zero=>cases hcf
 | succ n=>
  refine CU ((h.pa hcf hm).1) fun o ks e zz=>?_
  refine wg e ?_;rfl
theorem Pq.le {n a b f f':Nat} (h:f≤f') {v:V} (q:Pq G n a b f v):Pq G n a b f' v:=q.imp fun s q=>⟨q.1,A3 q.2.1 h,q.2.2⟩
theorem co_in {n ca cb f m:Nat} {hp:Hp} {k r F:List (V×V)} {sl:List V} {v1 v2 v3 v5 x6:Option V} {g:Hp} {N:Lc→Hp→Prop} {R:KV} (B:Bs sc ns C G dom hp) (hcf:cfB G n ca cb=true) (hn:n≤7) (hf:f+1≤59) (S:HA G n ca cb (f+1) sl) (hF:Ks F (Pq G n ca cb f))
  (kk:∀F g x6,Ks F (Pq G n ca cb (f+1))→N [some (.loc C.h),v1,v2,v3,some (.loc hp.length),v5,x6,none] (upd C hp k r++ .dict true F::g)):
  xloop (BE 6) (x_co_i (Phi sc ns (m+8))) tt N R sl [some (.loc C.h),v1,v2,v3,some (.loc hp.length),v5,x6,none] (upd C hp k r++ .dict true F::g):=by
 have ul:(upd C hp k r).length=hp.length:=CL
 have inQ:∀{dn:List V} v,(Pq G n ca cb f v∨∃s∈shp G n ca cb,vz n s=f+1∧pt n s∈dn∧v=(nm n s []).1)→Pq G n ca cb (f+1) v:=fun v q=>q.elim (Pq.le (O9 f)) fun q=>q.imp fun s q=>⟨q.1,B3 q.2.1,q.2.2.2⟩
 refine x_lv (g:=tt) (fun l Q=>∀dn F g x6,sl=dn++l→Ks F (fun v=>Pq G n ca cb f v∨∃s∈shp G n ca cb,vz n s=f+1∧pt n s∈dn∧v=(nm n s []).1)→Q [some (.loc C.h),v1,v2,v3,some (.loc hp.length),v5,x6,none] (upd C hp k r++ .dict true F::g)) (fun u l Z hZ dn F g x6 e hF=>A0 trivial ?_) (fun dn F g x6 e hF=>A0 trivial ?_) sl [] F g x6 rfl (hF.iff fun v=>⟨.inl,fun q=>q.elim id fun ⟨_,_,_,m,_⟩=>(nomatch m)⟩)
 ·refine Bo ((S.2 u).mp (e▸B8 _ (.head _))) fun s hs ez hh3=>?_;obtain rfl:=hh3
  have sh:=Cs n hcf s hs
  have pq:Pq G n ca cb (f+1) (nm n s []).1:=⟨s,hs,B3 ez,rfl⟩
  have z60:=A3 hf (by decide:59≤60)
  have hF2:Ks (Bc F (nm n s []).1 (.bool true)) fun v=>Pq G n ca cb f v∨∃s'∈shp G n ca cb,vz n s'=f+1∧pt n s'∈dn++[pt n s]∧v=(nm n s' []).1:=hF.add.iff fun v=>by
   rw[or_assoc]
   refine or_congr f8 ⟨fun q=>q.elim (fun q=>q.imp fun s' q=>⟨q.1,q.2.1,D0 _ q.2.2.1,q.2.2.2⟩) fun q=>⟨s,hs,ez,B8 _ (.head _),q⟩,fun q=>q.elim fun s' q=>(C5.mp q.2.2.1).elim (fun m=>.inl ⟨s',q.1,q.2.1,m,q.2.2.2⟩) fun m=>.inr ?_⟩
   exact wg q.2.2.2 (wg (pt_inj n s' (Cs n hcf s' q.1) sh (A8.mp m)) rfl)
  refine y_named n s sh (A3 hn (D5 7 (m+1))) GM (by refine wg List.length_nil (wg (I0 ..) (wg ez ?_));exact z60) Bn ?_
  refine wg Cr (wg (E5 ..) ?_)
  refine pD_ (Ce ul) (A0 ⟨V.ok_up (fun e=>e) n _ (pq.pa hcf z60).1.tm.key 8 (E7 hn),fun p hp=>((inQ _ ((hF.m _).mp (H1 (f:=(·.1)) hp))).kind hcf z60).trans (pq.kind hcf z60).symm,A3 (Pq.z hF inQ hcf) (by decide)⟩ ?_)
  show xseq _ _ _ (Hp.put (upd C hp k r++(PO.dict true F::(g++_))) _ _) _ _
  refine wg (IV ul) ?_
  refine A0 (at_ B.upd.app.i B.upd.app.n trivial) ?_
  show Phi sc ns (m+7+1) 249 [.loc C.h,.loc hp.length] _ fun zz hp=>Z _ hp
  exact Fl (Ce ul) (.inr ⟨_,_,rfl,A3 (Pq.z hF2 inQ hcf) (by decide)⟩) (hZ _ _ _ _ (e.trans (T8 ..)) hF2)
 ·rw[D8] at e
  subst e
  exact kk F g x6 (hF.iff fun v=>⟨inQ v,fun ⟨s,hs,e,q⟩=>(AQ f (vz n s)).elim (fun w=>.inr ⟨s,hs,L9 e w,(S.2 _).mpr ⟨s,hs,L9 e w,rfl⟩,q⟩) fun w=>.inl ⟨s,hs,w,q⟩⟩)
theorem co_main {n ca cb most a b m:Nat} {hp:Hp} {K:KV} (hS:Suf.length≤19) (hT:∀xs∈Suf,xs.tail≠[]→xs.tail∈Suf) (hD:∀c,dom c→∀nd∈G c,(∀k∈nd.2,dom k)∧(nd.2≠[]→nd.2∈Suf)) (hcf:cfB G n ca cb=true) (hn:n≤7) (hda:dom ca) (hdb:dom cb) (hmost:most≤10) (B:Bs sc ns C G dom hp) (e1:hp.f C.k=some (.dict true [])) (e2:hp.f C.r=some (.dict true []))
  (hH:∀{hp':Hp},Agr [C.k,C.r] hp hp'→(∀{K:KV},K (iN ca) hp'→Phi sc ns (m+45) 402 [.loc C.b,iN a] hp' K)∧∀{K:KV},K (iN cb) hp'→Phi sc ns (m+45) 402 [.loc C.b,iN b] hp' K)
  (kk:∀L R k r g,L.Nodup→(∀v,v∈L↔Pq G n ca cb most v)→Seq (fun v=>EX (BU n v)) L R→K (.lst (bestL (IY n) R)) (upd C hp k r++g)):
  x_co_m (Phi sc ns (m+45)) [some (.loc C.h),some (iN a),some (iN b),some (iN most),none,none,none,none] hp (fun zz hp=>K .none hp) K:=by
 have both:=(y_both (sc:=sc) (ns:=ns) (C:=C) hS hT hD (m+45))
 have gk:∀{k' r' t},Hp.f (upd C hp k' r'++t) C.k=some (.dict true k'):=fun {k' r' t}=>BT (HW B.ne.1 B.lk)
 have gr:∀{k' r' t},Hp.f (upd C hp k' r'++t) C.r=some (.dict true r'):=fun {k' r' t}=>BT (HX B.lr)
 have ul:∀{k' r'},(upd C hp k' r').length=hp.length:=CL
 refine A0 ⟨⟨by decide,by decide⟩,C6 _,N7 (Z4 (T9.mpr hmost) 1) (by decide)⟩ ?_
 show xloop (BE 5) (x_co_o (Phi sc ns (m+45))) tt _ _ (EU ((0+1:Nat):Int) ((most:Int)+1 - 1).toNat) [some (.loc C.h),some (iN a),some (iN b),some (iN most),some (.loc hp.length),none,none,none] (hp++[.dict true []])
 refine wg (l7 ..) (wg (N3 ..) (wg (show hp++[PO.dict true []]=upd C hp [] []++[.dict true []] by rw[Df e1 e2]) ?_))
 refine x_rg (g:=tt) (fun d f Q=>∀k r F g x5 x6,f+d=most→CX G Suf k r→Ks F (Pq G n ca cb f)→Q [some (.loc C.h),some (iN a),some (iN b),some (iN most),some (.loc hp.length),x5,x6,none] (upd C hp k r++ .dict true F::g)) (fun d f Z hZ k r F g x5 x6 e T hF=>A0 trivial ?_) (fun f k r F g x5 x6 e T hF=>A0 trivial ?_) most 0 [] [] [] [] none none (I0 _) ⟨N4,nofun,N4,nofun⟩ ⟨N4,fun v=>⟨nofun,fun ⟨s,hs,e0,_⟩=>(Z2 _ (A3 (vz_pos n s (Cs n hcf s hs)) e0)).elim⟩⟩
 ·have f10:f+1≤10:=A3 (A3 (B7 (D5 1 d) f) (B3 e)) hmost
  have A:Agr [C.k,C.r] hp (upd C hp k r++ .dict true F::g):=IS.trans Agr.app
  refine A0 (at_ B.upd.app.i B.upd.app.n trivial) (at_ B.upd.app.i B.upd.app.n (A0 rfl (A0 B.upd.app.b ((hH A).1 (at_ B.upd.app.i B.upd.app.n (A0 rfl (A0 B.upd.app.b ((hH A).2 ?_))))))))
  refine both.1 (z:=f+1) rfl hn hcf hda hdb ⟨D5 1 f,I7 f10⟩ (A3 (G3 (i8 2 f10) 4) (A3 (by decide) (D5 45 m))) B.upd.app gk gr T fun k2 r2 sl hp2 eh T2 S2=>?_
  rw[IW B] at eh
  subst eh
  exact co_in B hcf hn (A3 f10 (by decide)) S2 hF fun F g x6 hF=>hZ _ _ _ _ _ _ ((N5 f 1 d).trans e) T2 hF
 ·cases (show f=most from e)
  have z60:=A3 hmost (by decide:10≤60)
  have pa:∀v∈F.map (·.1),Pa n v∧(BU n v).length≤60:=fun v hv=>((hF.m v).mp hv).pa hcf z60
  have zF:=Pq.z hF (fun v q=>q) hcf
  have n45:n≤m+44:=A3 hn (D5 7 (m+37))
  show Ca (Phi sc ns (m+44+1) 103) [.loc hp.length] (upd C hp k r++PO.dict true F::g) _
  refine keyed_ (κ:=fun v=>EX (BU n v)) (L:=F.map (·.1)) (Ce ul) rfl (by refine wg (A4 ..) ?_;exact I7 zF) (fun v hv K kk=>y_key (pa v hv).1.tm ⟨n45,A3 hn (by decide)⟩ (A3 (pa v hv).2 (by decide)) kk) hF.n (fun v hv w hw e=>IQ (pa v hv).1.tm (pa w hw).1.tm e) (fun v hv=>⟨(key_cmp (pa v hv).1.tm).1,⟨_,_,rfl⟩⟩) (fun v hv w hw=>key_lt (pa v hv).1.tm (pa w hw).1.tm) fun R hR=>?_
  have mR:∀{v},v∈R→v∈F.map (·.1):=fun h=>hR.p.mem_iff.mp h
  refine y_best (cov:=IY n) rfl ?_ (fun v hv=>V.ok_up (fun e=>e) n _ (pa v (mR hv)).1.tm.key 7 hn) (fun one h1 wide h2 g K kk=>?_) (fun g=>kk _ R k r g hF.n hF.m hR) _
  ·refine wg hR.p.length_eq (wg (A4 ..) ?_);exact A3 zF (by decide)
  ·have q:=cov_ (P:=fun b=>K (.bool b) (upd C hp k r++g)) (kk g)
   exact y_cov (pa wide (mR h2)).1 hn ((pa one (mR h1)).1.up hn) (pa wide (mR h2)).2 q.1 q.2
theorem y_common {n ca cb most a b m ah an hb:Nat} {mi:Int} {x y:V} {hp:Hp} {K:KV} (hS:Suf.length≤19) (hT:∀xs∈Suf,xs.tail≠[]→xs.tail∈Suf) (hD:∀c,dom c→∀nd∈G c,(∀k∈nd.2,dom k)∧(nd.2≠[]→nd.2∈Suf))
  (hcf:cfB G n ca cb=true) (hn7:n≤7) (hda:dom ca) (hdb:dom cb) (hmi:mi=most) (hmost:most≤10) (hi:hp.f ah=some (.inst 264 an)) (hn:hp.f an=some (.ns 264 [.loc hb,x,y]))
  (hH:∀{hp':Hp},Agr [an] hp hp'→(hI hp' 478 (.loc hb) fun zz zz=>True)∧(∀{c m:Nat},dom c→5≤m→∀{K:KV},K (.lst ((G c).map BI)) hp'→Phi sc ns m 456 [.loc hb,iN c] hp' K)∧(∀{K:KV},K (iN ca) hp'→Phi sc ns (m+45) 402 [.loc hb,iN a] hp' K)∧∀{K:KV},K (iN cb) hp'→Phi sc ns (m+45) 402 [.loc hb,iN b] hp' K)
  (k:∀L R hp',L.Nodup→(∀v,v∈L↔Pq G n ca cb most v)→Seq (fun v=>EX (BU n v)) L R→Agr [an] hp hp'→(∃x y,hp'.f an=some (.ns 264 [.loc hb,x,y]))→K (.lst (bestL (IY n) R)) hp'):Phi sc ns (m+46) 242 [.loc ah,iN a,iN b,.int mi] hp K:=by
 subst hmi
 have ne:an≠ah:=fun e=>by rw[e,hi] at hn;cases hn
 have la:=DF hn
 have lh:=DF hi
 refine A0 rfl ?_
 show CO (Phi sc ns (m+45)) _ _ _ _
 unfold CO
 refine CW (fun Z=>∀h,New hp h ah an hb→Z [some (.loc ah),some (iN a),some (iN b),some (iN most),none,none,none,none] h) (fun Z hZ=>?_) fun hp1 N1=>?_
 ·have w:=new_of (x:=x) (y:=y) (w:=(hp++[PO.dict true []]).length) hi hn (by refine wg A7 ?_;rfl)
  exact A0 rfl (at_ w.1 w.2.1 (A0 ⟨A6 rfl,A6 rfl⟩ (at_ w.2.2.1 w.2.2.2.1 (A0 ⟨A6 rfl,A6 rfl⟩ (hZ _ w.2.2.2.2)))))
 have aa:∀{hp':Hp},Agr [hp.length,hp.length+1] hp1 hp'→Agr [an] hp hp':=fun {hp'} q i o hni ho=>q i o (fun m=>by
  have l:=DF ho
  rcases C4.mp m with e | m
  ·exact E4 l e
  ·exact E4 (M5 l) (A8.mp m)) (N1.a i o hni ho)
 have B:Bs sc ns ⟨ah,an,hp.length,hp.length+1,hb⟩ G dom hp1:=⟨N1.i,N1.n,(hH N1.a).1,⟨E4 (G7 _),E4 lh,E4 (M5 lh),E4 la,E4 (M5 la)⟩,DF N1.k,DF N1.r,fun q=>⟨(hH (aa q)).1,fun hd h5 K kk=>(hH (aa q)).2.1 hd h5 kk⟩⟩
 exact co_main hS hT hD hcf hn7 hda hdb hmost B N1.k N1.r (fun A=>⟨fun kk=>(hH (aa A)).2.2.1 kk,fun kk=>(hH (aa A)).2.2.2 kk⟩) fun L R k' r' g h1 h2 h3=>k L R _ h1 h2 h3 (aa (Agr.trans (IS (C:=⟨ah,an,hp.length,hp.length+1,hb⟩)) Agr.app)) ⟨_,_,(B.upd (k:=k') (r:=r')).app.n⟩
end
section
variable {sc:Addr} {ns:List Int} {L:Nat→List Nd}
theorem ans_cov {n:Nat} {w t:V} {b:Bool} {T':Tb} (h:Ans (fun σ=>Mt σ n w t) [] b T'):b=IY n w t:=by
 unfold IY
 cases b with
 | true=>
  refine ex1 (Sat.ex h.1.n) fun σ hσ=>?_
  exact (@decide_eq_true _ (M9 _) ⟨σ,((h.2.1 rfl σ).mp hσ).2⟩).symm
 | false=>exact (@decide_eq_false _ (M9 _) fun ⟨σ,hσ⟩=>h.2.2 rfl σ nofun hσ).symm
theorem du_in {n ca cb most m:Nat} {h0 g:Hp} {v0 v1 v2 v3 v5 v6 x8 x9:Option V} {N:Lc→Hp→Prop} {R:KV} (hcf:cfB L n ca cb=true) (hn:n≤7) (hmost:most≤60) (hvz:∀s∈shp L n ca cb,vz n s≤60) (kk:∀F g x8 x9,Ks F (Pq L n ca cb most)→N [v0,v1,v2,v3,some (iN most),v5,v6,some (.loc h0.length),x8,x9,none] (h0++ .dict true F::g)):
  xloop (BE 8) (x_du_b (Phi sc ns (m+8))) tt N R (shp L n ca cb) [v0,v1,v2,v3,some (iN most),v5,v6,some (.loc h0.length),x8,x9,none] (h0++ .dict true []::g):=by
 have inQ:∀{dn:List V},(∀s∈dn,s∈shp L n ca cb)→∀v,(∃s∈dn,vz n s≤most∧v=(nm n s []).1)→Pq L n ca cb most v:=fun hd v q=>q.imp fun s q=>⟨hd s q.1,q.2⟩
 refine x_lv (g:=tt) (fun l Q=>∀dn F g x8 x9,shp L n ca cb=dn++l→Ks F (fun v=>∃s∈dn,vz n s≤most∧v=(nm n s []).1)→Q [v0,v1,v2,v3,some (iN most),v5,v6,some (.loc h0.length),x8,x9,none] (h0++ .dict true F::g)) (fun s l Z hZ dn F g x8 x9 es hF=>A0 trivial ?_) (fun dn F g x8 x9 es hF=>A0 trivial ?_) (shp L n ca cb) [] [] g x8 x9 rfl ⟨N4,fun v=>⟨nofun,fun q=>q.elim fun zz q=>(nomatch q.1)⟩⟩
 ·have es2:=es.trans (T8 dn s l)
  have hs:s∈shp L n ca cb:=es▸B8 _ (.head _)
  have sh:=Cs n hcf s hs
  have z60:=hvz s hs
  have z0:([]:List V).length+vz n s≤60:=(I0 (vz n s)).symm▸z60
  have w:=nm_pa n s sh GM z0
  have n8:=A3 hn (D5 7 (m+1))
  have hw:(BU n (nm n s []).1).length≤4000:=A3 (B3 w.2) (A3 z60 (by decide))
  have sub:∀{v},(∃t∈dn,vz n t≤most∧v=(nm n t []).1)→∃t∈dn++[s],vz n t≤most∧v=(nm n t []).1:=fun q=>q.imp fun t q=>⟨D0 _ q.1,q.2⟩
  refine y_spelled n s sh n8 GM z0 Bn ?_
  refine wg Cr (wg (E5 ..) ?_)
  refine y_heads n w.1.tm n8 hw (A0 (by refine wg (A4 ..) ?_;exact A3 hw (by decide)) ?_)
  refine wg (A4 ..) (wg w.2 ?_)
  refine A0 (fun e=>?_) fun e=>?_
  ·have e:vz n s≤most:=T9.mp (of_decide_eq_true e)
   have pq:Pq L n ca cb most (nm n s []).1:=⟨s,hs,e,rfl⟩
   have md:=inQ (dn:=dn) fun s m=>es▸D0 _ m
   refine pD_ Bn (A0 ⟨V.ok_up (fun e=>e) n _ w.1.tm.key 8 (E7 hn),fun p hp=>((md _ ((hF.m _).mp (H1 (f:=(·.1)) hp))).kind hcf hmost).trans (pq.kind hcf hmost).symm,A3 (Pq.z hF md hcf) (by decide)⟩ ?_)
   show Z _ (Hp.put (h0++(PO.dict true F::(g++_))) _ _)
   refine wg Cr ?_
   exact hZ _ _ _ _ _ es2 (hF.add.iff fun u=>⟨fun q=>q.elim sub fun q=>⟨s,B8 _ (.head _),e,q⟩,fun q=>q.elim fun t q=>(C5.mp q.1).elim (fun m=>.inl ⟨t,m,q.2⟩) fun m=>.inr (q.2.2.trans (by exact wg (A8.mp m) rfl))⟩)
  ·have e:¬vz n s≤most:=fun h=>of_decide_eq_false e (T9.mpr h)
   exact hZ _ _ _ _ _ es2 (hF.iff fun u=>⟨sub,fun q=>q.imp fun t q=>⟨(C5.mp q.1).elim id fun m=>absurd q.2.1 (by refine wg (A8.mp m) ?_;exact e),q.2⟩⟩)
 ·rw[D8] at es
  subst es
  exact kk F g x8 x9 hF
theorem y_due {n ca cb most a b m:Nat} {mi:Int} {nv pv:V} {homes:List Nat} {hp:Hp} {K:KV} (hcf:cfB L n ca cb=true) (hn:n≤7) (hmi:mi=most) (hmost:most≤60) (hvz:∀s∈shp L n ca cb,vz n s≤60) (ha:homes[a]?=some ca) (hb:homes[b]?=some cb) (hz:homes.length≤4096)
  (hL:∀{K:KV},(∀g lv b D,Lts (hp++g) lv L b D→K (.tup [.lst (homes.map iN),.loc lv]) (hp++g))→Phi sc ns (m+10) 501 [nv,pv] hp K)
  (k:∀Ls R,Ls.Nodup→(∀v,v∈Ls↔Pq L n ca cb most v)→Seq (fun v=>FC (BU n v)) Ls R→K (.lst (bestL (IY n) R)) hp):Phi sc ns (m+11) 535 [nv,pv,iN a,iN b,.int mi] hp K:=by
 subst hmi
 refine A0 rfl (hL fun g0 lv db D hLt=>A0 rfl ?_)
 have zh:(homes.map iN).length≤4096:=by refine wg (A4 ..) ?_;exact hz
 have ga:(homes.map iN)[a]?=some (iN ca):=by refine wg G0 (wg ha ?_);rfl
 have gb:(homes.map iN)[b]?=some (iN cb):=by refine wg G0 (wg hb ?_);rfl
 refine A0 ⟨zh,C6 a⟩ (so_ ga (A0 ⟨zh,C6 b⟩ (so_ gb (y_shapes n hcf (A3 hn (D5 7 (m+3))) hLt.app (du_in hcf hn hmost hvz fun F g x8 x9 hF=>?_)))))
 have pa:∀v∈F.map (·.1),Pa n v∧(BU n v).length≤60:=fun v hv=>((hF.m v).mp hv).pa hcf hmost
 have zF:=Pq.z hF (fun v q=>q) hcf
 have n9:=A3 hn (D5 7 (m+2))
 show Ca (Phi sc ns (m+9+1) 523) [.loc (hp++g0).length] ((hp++g0)++PO.dict true F::g) _
 refine keyed_ (κ:=fun v=>FC (BU n v)) (L:=F.map (·.1)) Bn rfl (by refine wg (A4 ..) ?_;exact I7 zF) (fun v hv K kk=>y_rank (pa v hv).1.tm n9 (A3 (pa v hv).2 (by decide)) kk) hF.n (fun v hv w hw e=>IQ (pa v hv).1.tm (pa w hw).1.tm (rank_inj e)) (fun v hv=>⟨(key_cmp (pa v hv).1.tm).2,⟨_,_,rfl⟩⟩) (fun v hv w hw=>rank_key▸key_lt (pa v hv).1.tm (pa w hw).1.tm) fun R hR=>?_
 have mR:∀{v},v∈R→v∈F.map (·.1):=fun h=>hR.p.mem_iff.mp h
 refine y_best (cov:=IY n) rfl ?_ (fun v hv=>V.ok_up (fun e=>e) n _ (pa v (mR hv)).1.tm.key 7 hn) (fun one h1 wide h2 g K kk=>?_) (fun g=>?_) _
 ·refine wg hR.p.length_eq (wg (A4 ..) ?_);exact A3 zF (by decide)
 ·refine y_under n (E7 n9) hn (T:=[]) (pa wide (mR h2)).1 ((pa one (mR h1)).1.up hn) ⟨N4,nofun⟩ (A3 (B3 (I0 _)) (pa wide (mR h2)).2) Bn fun b T' hb hT=>?_
  refine wg Cr (wg (E5 ..) (wg (ans_cov hb) ?_))
  exact kk _
 ·show Do hp K _ ((hp++g0)++g)
  refine wg Bq ?_
  exact IK (bd_lst (n:=n) fun v hv=>(pa v (mR (AG.mp hv).1)).1.tm.key) (k _ R hF.n hF.m hR)
end
section
variable {α β:Type}
noncomputable def nth (l:List α):Nat→Option α:=I8 (fun zz=>none) (fun x zz ih i=>Aq (some x) (fun i zz=>ih i) i) l
noncomputable def bo (o:Option α) (f:α→Option β):Option β:=Y0 none f o
noncomputable def IZ (f:α→Option β) (l:List α):Option (List β):=I8 (some []) (fun x zz ih=>bo (f x) fun y=>bo ih fun ys=>some (y::ys)) l
noncomputable def gd (b:Bool) (x:Option α):Option α:=I6 none x b
theorem Dl {l:List α}:∀{i},nth l i=l[i]?:=fun {i}=>I8 (motive:=fun l=>∀i,nth l i=l[i]?) (fun zz=>rfl) (fun x l ih i=>Nat.casesOn i rfl ih) l i
theorem bo_ {o:Option α} {f:α→Option β} {b:β} {C:Prop} (e:bo o f=some b) (k:∀a,o=some a→f a=some b→C):C:=by
 cases o with
 | none=>cases e
 | some a=>exact k a rfl e
theorem CI {l:List α} {i:Nat} {f:α→Option β} {b:β} {C:Prop} (e:bo (nth l i) f=some b) (k:∀a,l[i]?=some a→f a=some b→C):C:=bo_ e fun a h=>k a (Dl▸h)
end
noncomputable def an (a b:Bool):Bool:=I6 false b a
theorem an_ {a b:Bool} (h:an a b=true):a=true∧b=true:=by
 cases a with
 | false=>cases h
 | true=>exact ⟨rfl,h⟩
theorem an_eq {a b:Bool}:an a b=(a&&b):=by cases a <;> rfl
noncomputable def eqL (a:List Nat):List Nat→Bool:=I8 (fun b=>I8 true (fun zz zz zz=>false) b) (fun x zz ih b=>I8 false (fun y s zz=>an (H7 x y) (ih s)) b) a
noncomputable def Cg (a b:Nd):Bool:=an (H7 a.1 b.1) (eqL a.2 b.2)
structure PS where
 nd:List Nd
 ab:List Nat
 lo:List (List Nat)
 kn:List (Nd×Nat)
 us:List (Option (List Nat))
 wt:List Nat
 ed:Nat
noncomputable def Bp (ab:List Nat) (f:Nat):Nat→Option Nat:=Aq (fun zz=>none) (fun zz ih a=>bo (nth ab a) fun b=>I6 (ih b) (some a) (H7 b a)) f
noncomputable def FG (p:PS) (n:Nat):Option Nd:=bo (nth p.nd n) fun d=>bo (IZ (Bp p.ab 20) d.2) fun ks=>some (d.1,ks)
structure HS where
 row:List V
 pos:Int
 w7:List V
 w8:List V
 mg:List V
 ed:List V
 fo:List V
 ub:Bool
 us:List (V×V)
 as:List Nat
 ln:List V
 v:Hp
noncomputable def Du (l:List Nd):List (V×V):=l.mapIdx fun i d=>(BI d,iN i)
noncomputable def knV (l:List (Nd×Nat)):List (V×V):=l.map fun p=>(BI p.1,iN p.2)
noncomputable def H (p:PS) (x:HS):Hp:=
 .dict true [(.str "row",.lst x.row),(.str "at",.int x.pos)]::.ns 478 [.loc 4,.loc 10,.loc 14,.loc 15,.loc 16,.loc 17,.loc 18,.int 0]::.inst 478 1::.ns 207 [.loc 5,.loc 6,.loc 7,.loc 8]::.inst 207 3::
 .list (p.nd.map BI)::.dict true (Du p.nd)::.list x.w7::.list x.w8::.ns 346 [.loc 11,.loc 12,.loc 13]::.inst 346 9::.list (p.ab.map iN)::.list (x.as.map fun a=>.loc (a+20))::.list x.mg::.list x.ed::.list x.fo::
 .dict true (knV p.kn)::.dict x.ub x.us::.list (p.wt.map iN)::.list x.ln::x.v
noncomputable def Us (x:HS) (c:Nat) (l:List Nat):Prop:=∃a,x.as[c]?=some a∧BR x.us (iN c)=some (.loc (a+21))∧x.v.f (a+1)=some (.list (l.map iN))
structure Rep (p:PS) (x:HS):Prop where
 w7:∃m:List Int,x.w7=m.map .int∧m.length=p.nd.length
 w8:∃m:List Int,x.w8=m.map .int∧m.length=p.nd.length
 zm:x.mg.length≤p.ed∧x.ed.length=p.ed∧x.fo.length≤p.ed∧p.ed≤1000
 zn:p.nd.length≤40∧p.ab.length=p.nd.length∧p.lo.length=p.nd.length∧x.as.length=p.nd.length∧p.us.length=p.nd.length
 zk:p.kn.length≤1000∧p.wt.length≤1000
 la:∀{i a:Nat} {l:List Nat},x.as[i]?=some a→p.lo[i]?=some l→x.v.f a=some (.list (l.map iN))∧l.length≤59
 a2:∀a∈x.as,a+2≤x.v.length
 sp:x.as.Pairwise fun a b=>a+2≤b
 un:(x.us.map (·.1)).Nodup
 uk:(∀p∈x.us,p.1.kind=0)∧x.us.length≤p.nd.length
 u:∀{c:Nat} {l:List Nat},p.us[c]?=some (some l)→l.length≤1000∧(BR x.us (iN c)=some (.lst (l.map iN))∨Us x c l)
 u0:p.ed=0→∀{c:Nat} {l:List Nat},p.us[c]?=some (some l)→Us x c l
 nd:∀d∈p.nd,d.1<16∧d.2.length≤20
 kn:∀d∈p.kn,d.1.1<16∧d.1.2.length≤20
section
variable {sc:Addr} {ns:List Int} {p:PS} {x:HS}
theorem ES (h:Rep p x):∀{f a c m:Nat} {K:KV},Bp p.ab f a=some c→K (iN c) (H p x)→Phi sc ns (m+1) 303 [.loc 10,iN a] (H p x) K:=by
 intro f a c m K e k
 refine A0 rfl (Az f ?_)
 have z:(p.ab.map iN).length≤4096:=by refine wg (A4 ..) (wg h.zn.2.1 ?_);have:=h.zn.1;exact up this rfl
 refine x_wh (I:=fun f lc hp=>∃a,Bp p.ab f a=some c∧lc=[some (.loc 10),some (iN a)]∧hp=H p x) (fun lc hp x=>x.elim fun zz w=>(nomatch w.1)) (fun f lc hp Z I hZ=>?_) f ⟨a,e,rfl,rfl⟩
 refine Bo I fun a e hh2 hh3=>?_;clear I;obtain rfl:=hh2;obtain rfl:=hh3
 refine CI e fun b e1 e2=>?_
 have g:(p.ab.map iN)[a]?=some (iN b):=by refine wg G0 (wg e1 ?_);rfl
 refine at_ rfl rfl (A0 rfl (pL_ rfl (A0 ⟨z,C6 a⟩ (so_ g (A0 ⟨rfl,rfl⟩ (A0 (fun q=>?_) fun q=>?_))))))
 ·cases eb:H7 b a with
  | true=>exact absurd (F6 eb) fun e=>by subst e;rw[decide_eq_true rfl] at q;cases q
  | false=>
   rw[eb] at e2
   exact at_ rfl rfl (A0 rfl (pL_ rfl (A0 ⟨z,C6 a⟩ (so_ g (hZ _ _ ⟨b,e2,rfl,rfl⟩)))))
 ·cases eb:H7 b a with
  | true=>rw[eb] at e2;cases e2;exact k
  | false=>
   refine absurd (Dr q) fun e=>?_
   rw[L8 (V.int.inj e),R7] at eb;cases eb
theorem EI (h:Rep p x) {f a c m:Nat} {K:KV} (e:Bp p.ab f a=some c) (k:K (iN c) (H p x)):Phi sc ns (m+2) 402 [.loc 2,iN a] (H p x) K:=by
 exact A0 rfl (at_ rfl rfl (A0 rfl (A0 (at_ rfl rfl trivial) (ES h e k))))
end
theorem Cu {α β:Type} {f:α→Option β}:∀{l:List α} {r:List β},IZ f l=some r→∀d,r=l.map (fun x=>(f x).getD d)∧(∀x∈l,∃y,f x=some y):=by
 intro l
 induction l with
 | nil=>exact fun e d=>⟨(G9 e).symm,nofun⟩
 | cons x l ih=>
  intro r e d
  refine bo_ e fun y e1 e=>bo_ e fun ys e2 e=>?_
  cases e
  have q:=ih e2 d
  exact ⟨by refine wg Q2 (wg e1 (wh q.1 ?_));rfl,fun z hz=>(C4.mp hz).elim (fun e=>⟨y,e▸e1⟩) (q.2 z)⟩
theorem mapO_perm {α β:Type} {f:α→Option β} {l l':List α} {r:List β} (d:β) (h:IZ f l=some r) (p:l'.Perm l):(l'.map fun x=>(f x).getD d).Perm r:=(Cu h d).1▸p.map _
noncomputable def Dv (v:V):Nat:=match v with
 | .int i=>i.toNat
 | _=>0
section
variable {sc:Addr} {ns:List Int} {p:PS} {x:HS}
theorem Rep.zd (h:Rep p x):(p.nd.map BI).length≤4096:=by refine wg (A4 ..) ?_;have:=h.zn.1;exact up this rfl
theorem Rep.za (h:Rep p x):(x.as.map fun a=>V.loc (a+20)).length≤4096:=by refine wg (A4 ..) (wg h.zn.2.2.2.1 ?_);have:=h.zn.1;exact up this rfl
theorem y_op (h:Rep p x) {n m:Nat} {d:Nd} {K:KV} (e:p.nd[n]?=some d) (k:K (.str (opN d.1)) (H p x)):Phi sc ns (m+1) 164 [.loc 4,iN n] (H p x) K:=by
 have g:(p.nd.map BI)[n]?=some (BI d):=by refine wg G0 (wg e ?_);rfl
 have q:=h.nd d (B9 e)
 exact A0 rfl (at_ rfl rfl (A0 rfl (pL_ rfl (A0 ⟨h.zd,C6 n⟩ (so_ g (A0 ⟨show (_::d.2.map iN).length≤4096 by refine wg K9 (wg (A4 ..) ?_);exact B1 (up q.2 rfl),H3 0⟩ k))))))
theorem y_kids (h:Rep p x) {n m:Nat} {d:Nd} {K:KV} (e:p.nd[n]?=some d) (k:K (.tup (d.2.map iN)) (H p x)):Phi sc ns (m+1) 171 [.loc 4,iN n] (H p x) K:=by
 have g:(p.nd.map BI)[n]?=some (BI d):=by refine wg G0 (wg e ?_);rfl
 have q:=h.nd d (B9 e)
 exact A0 rfl (at_ rfl rfl (A0 rfl (pL_ rfl (A0 ⟨h.zd,C6 n⟩ (so_ g (A0 (by refine wg (A4 ..) ?_;exact up q.2 rfl) k))))))
theorem y_node (h:Rep p x) {n m:Nat} {d:Nd} {K:KV} (e:FG p n=some d) (k:K (BI d) (H p x)):Phi sc ns (m+3) 376 [.loc 2,iN n] (H p x) K:=by
 refine CI e fun d0 e1 e=>bo_ e fun ks e2 e=>?_
 cases e
 have q:=h.nd d0 (B9 e1)
 refine an2 (Cu e2 0) fun e3 e4=>?_
 have ek:(d0.2.map iN).map (fun v=>iN ((Bp p.ab 20 (Dv v)).getD 0))=ks.map iN:=by refine wg e3 (wg G2 (wg G2 ?_));rfl
 refine A0 rfl (at_ rfl rfl (A0 rfl (A0 (at_ rfl rfl trivial) (y_op h e1 (at_ rfl rfl (A0 rfl (A0 (at_ rfl rfl trivial) (y_kids h e1 (Dq (f:=fun v=>iN ((Bp p.ab 20 (Dv v)).getD 0)) ?_ trivial (fun v hv Z z=>?_) ?_)))))))))
 ·refine wg (A4 ..) ?_;exact up q.2 rfl
 ·refine BD (B5.mp hv) fun i hi hh2=>?_;obtain rfl:=hh2
  refine ex1 (e4 i hi) fun c hc=>?_
  refine A0 (at_ rfl rfl trivial) (EI h hc ?_)
  have z:Z (iN ((Bp p.ab 20 i).getD 0)) (H p x):=z
  rwa [hc] at z
 ·refine wg ek ?_
  have zk:(ks.map iN).length≤20:=by refine wg e3 (wg (A4 ..) (wg (A4 ..) ?_));exact q.2
  exact A0 (A3 zk (by decide)) (A0 (A3 (B7 zk 1) (by decide)) k)
end
noncomputable def ltL (a:List Nat):List Nat→Bool:=I8 (fun b=>I8 false (fun zz zz zz=>true) b) (fun x zz ih b=>I8 false (fun y s zz=>Nat.blt x y || (H7 x y&&ih s)) b) a
noncomputable def kyO (k:Nat):Nat:=(k+2)%16
noncomputable def ndLt (a b:Nd):Bool:=Nat.blt (kyO a.1) (kyO b.1) || (H7 a.1 b.1&&ltL a.2 b.2)
noncomputable def srt2:List Nd→List Nd
 | [a,b]=>I6 (I6 [b,a] [a,b] (ndLt a b)) [a] (Cg a b)
 | l=>l
noncomputable def Ia (p:PS) (c:Nat):Option (List Nd):=bo (Bp p.ab 20 c) fun r=>bo (nth p.lo r) fun l=>bo (IZ (FG p) l) fun ds=>gd (K0 ds.length 2) (some (srt2 ds))
theorem eqL_iff:∀{a b:List Nat},eqL a b=true↔a=b:=by
 intro a
 induction a with
 | nil=>intro b;cases b <;> simp[eqL]
 | cons x a ih=>
  intro b
  cases b with
  | nil=>simp[eqL]
  | cons y b=>show an (H7 x y) (eqL a b)=true↔_;rw[an_eq,T5,ih,Nat.beq_eq,List.cons.injEq]
theorem Ch {a b:Nd}:Cg a b=true↔a=b:=by
 show an (H7 _ _) (eqL _ _)=true↔_
 refine wg an_eq (wg (T5 ..) ?_);rewrite[eqL_iff];refine wg Nat.beq_eq ?_
 exact ⟨fun h=>Prod.ext h.1 h.2,fun h=>h▸⟨rfl,rfl⟩⟩
theorem node_inj {a b:Nd} (ha:a.1<16) (hb:b.1<16) (e:BI a=BI b):a=b:=by
 injection e with e
 injection e with e1 e2
 exact Prod.ext (op_inj _ ha _ hb (V.str.inj e1)) (iN_inj e2)
theorem op_lt:∀a,a<16→∀b,b<16→kyO a<kyO b→decide ((opN a).cps.toList<(opN b).cps.toList)=true:=by decide+kernel
theorem ltL_ok:∀{a b:List Nat},ltL a b=true→Cj (a.map iN) (b.map iN)=some true:=by
 intro a
 induction a with
 | nil=>intro b h;cases b with
  | nil=>cases h
  | cons y b=>rfl
 | cons x a ih=>
  intro b h
  cases b with
  | nil=>cases h
  | cons y b=>
   show (if (iN x)=iN y then _ else some (decide ((x:Int)<y)))=_
   rcases R8.mp h with h | h
   ·have h:=Nat.lt_of_succ_le (A6 h)
    exact (if_neg fun e:iN x=iN y=>E4 h (L8 (V.int.inj e))).trans (congrArg some (decide_eq_true (K4.mpr h)))
   ·have h:=E3.mp h
    refine wg (if_pos (congrArg iN (F6 h.1))) ?_
    exact ih h.2
theorem ndLt_ok {a b:Nd} (ha:a.1<16) (hb:b.1<16) (h:ndLt a b=true):ltV (BI a) (BI b)=some true:=by
 show (if V.str (opN a.1)= .str (opN b.1) then Cj _ _ else some (decide _))=_
 rcases R8.mp h with h | h
 ·have h:=Nat.lt_of_succ_le (A6 h)
  have ne:a.1≠b.1:=fun e=>by rw[e] at h;exact N9 _ h
  exact wg (if_neg fun e=>ne (op_inj _ ha _ hb (V.str.inj e))) (wg (op_lt _ ha _ hb h) rfl)
 ·have h:=E3.mp h
  refine wg (if_pos (by rw[F6 h.1])) ?_
  exact ltL_ok h.2
theorem nd_cmp {a b:Nd}:ltV (BI a) (BI b)≠none:=by
 show (if V.str (opN a.1)= .str (opN b.1) then Cj _ _ else some (decide _))≠none
 split
 ·exact lts_int (fun x hx=>by refine BD (B5.mp hx) fun i zz hh2=>?_;obtain rfl:=hh2;exact ⟨_,rfl⟩) fun x hx=>by refine BD (B5.mp hx) fun i zz hh2=>?_;obtain rfl:=hh2;exact ⟨_,rfl⟩
 ·exact fun e=>nomatch e
theorem ltL_tot:∀{a b:List Nat},ltL a b=false→eqL a b=false→ltL b a=true:=by
 intro a
 induction a with
 | nil=>intro b h e;cases b with
  | nil=>cases e
  | cons y b=>cases h
 | cons x a ih=>
  intro b h e
  cases b with
  | nil=>rfl
  | cons y b=>
   have h:=Bool.or_eq_false_iff.mp h
   have e:(H7 x y&&eqL a b)=false:=an_eq▸e
   refine R8.mpr ?_
   by_cases q:x=y
   ·subst q
    rw[R7,u9] at e h
    exact .inr (E3.mpr ⟨R7 _,ih h.2 e⟩)
   ·left
    have h1:¬x<y:=fun w=>H0 (h.1.symm.trans (M8 w))
    exact M8 (P3 (G4.mp h1) (N6 q))
theorem kyO_inj:∀a,a<16→∀b,b<16→kyO a=kyO b→a=b:=by decide
theorem ndLt_tot {a b:Nd} (ha:a.1<16) (hb:b.1<16) (h:ndLt a b=false) (e:Cg a b=false):ndLt b a=true:=by
 have h:=Bool.or_eq_false_iff.mp h
 have e:(H7 a.1 b.1&&eqL a.2 b.2)=false:=an_eq▸e
 refine R8.mpr ?_
 by_cases q:a.1=b.1
 ·rw[q,R7,u9] at e h
  exact .inr (E3.mpr ⟨by exact wg q (wg (R7 ..) rfl),ltL_tot h.2 e⟩)
 ·left
  have h1:¬kyO a.1<kyO b.1:=fun w=>H0 (h.1.symm.trans (M8 w))
  have h2:kyO a.1≠kyO b.1:=fun w=>q (kyO_inj _ ha _ hb w)
  exact M8 (P3 (G4.mp h1) (N6 h2))
theorem srt2_ok {l:List Nd} (hz:l.length≤2) (h:∀d∈l,d.1<16):(∀d,d∈srt2 l↔d∈l)∧Asc ((srt2 l).map BI):=by
 match l,hz,h with
 | [],_,_=>exact ⟨fun zz=>f8,.nil⟩
 | [a],_,_=>exact ⟨fun zz=>f8,a9 _ _⟩
 | [a,b],_,h=>
  have ha:=h a (.head _)
  have hb:=h b (.tail _ (.head _))
  show (∀d,d∈(I6 (I6 [b,a] [a,b] (ndLt a b)) [a] (Cg a b):List Nd)↔d∈[a,b])∧Asc ((I6 (I6 [b,a] [a,b] (ndLt a b)) [a] (Cg a b):List Nd).map BI)
  cases e:Cg a b with
  | true=>
   have e:=Ch.mp e
   subst e
   exact ⟨fun d=>by simp,a9 _ _⟩
  | false=>
   cases e2:ndLt a b with
   | true=>exact ⟨fun zz=>f8,Ag.mpr (ndLt_ok ha hb e2)⟩
   | false=>exact ⟨fun d=>by simp[or_comm],Ag.mpr (ndLt_ok hb ha (ndLt_tot ha hb e2 e))⟩
section
variable {sc:Addr} {ns:List Int} {p:PS} {x:HS}
theorem y_members (h:Rep p x) {c r m:Nat} {l:List Nat} {K:KV} (e:Bp p.ab 20 c=some r) (el:p.lo[r]?=some l) (k:∀l':List Nat,l'.Perm l→K (.lst (l'.map iN)) (H p x)):Phi sc ns (m+3) 451 [.loc 2,iN c] (H p x) K:=by
 have hr:r<x.as.length:=by refine wg h.zn.2.2.2.1 (wh h.zn.2.2.1 ?_);exact (B6.mp el).1
 have g:(x.as.map fun a=>V.loc (a+20))[r]?=some (.loc (x.as[r]+20)):=by refine wg G0 (wg (B4 hr) ?_);rfl
 refine an2 (h.la (B4 hr) el) fun q qz=>?_
 refine A0 rfl (at_ rfl rfl (A0 rfl (A0 (at_ rfl rfl trivial) (A0 rfl ?_))))
 refine at_ rfl rfl (A0 rfl (A0 (at_ rfl rfl trivial) (ES h e (pL_ rfl (A0 ⟨h.za,C6 r⟩ (so_ g ?_))))))
 refine pS_ q ⟨l.map Int.ofNat,?_,?_,fun m' pm ps=>?_⟩
 ·refine wg G2 ?_;rfl
 ·refine wg (A4 ..) ?_;exact B1 (up qz rfl)
 ·have:m'.map V.int=(m'.map m4).map iN:=by
   refine wg G2 ?_
   refine H4 fun i hi=>?_
   refine BD (B5.mp (pm.mem_iff.mp hi)) fun j zz hh2=>?_;obtain rfl:=hh2
   rfl
  show K (.lst (m'.map V.int)) _
  refine wg this ?_
  refine k _ ?_
  have:=pm.map m4
  rwa [G2,show (m4∘Int.ofNat)=id from rfl,g8] at this
theorem nodeF_ok (h:Rep p x) {n:Nat} {d:Nd} (e:FG p n=some d):d.1<16∧d.2.length≤20:=by
 refine CI e fun d0 e1 e=>bo_ e fun ks e2 e=>?_
 cases e
 have q:=h.nd d0 (B9 e1)
 exact ⟨q.1,by refine wg ((Cu e2 0).1) (wg (A4 ..) ?_);exact q.2⟩
theorem DB {d:Nd} {b:Bool} {n:Nat} (h:d.1<16):V.ok b (n+1) (BI d)=true:=by
 show ((V.ok b n (.str (opN d.1)))&&_)=true
 refine wg IU (wg (Bool.and_true ..) ?_)
 cases n <;> exact (Gg h).s
theorem y_nodes_of (h:Rep p x) {c m:Nat} {ds:List Nd} {K:KV} (e:Ia p c=some ds) (k:K (.lst (ds.map BI)) (H p x)):Phi sc ns (m+5) 456 [.loc 2,iN c] (H p x) K:=by
 refine bo_ e fun r e1 e=>CI e fun l e2 e=>bo_ e fun ds0 e3 e=>?_
 cases ez:K0 ds0.length 2 with
 | false=>rw[ez] at e;cases e
 | true=>
 rw[ez] at e
 cases e
 have ez:=A6 ez
 refine an2 (Cu e3 (0,[])) fun e4 e5=>?_
 have hd:∀d∈ds0,d.1<16:=fun d hd=>by
  rw[e4] at hd
  refine BD (B5.mp hd) fun n hn hh2=>?_;obtain rfl:=hh2
  refine ex1 (e5 n hn) fun y hy=>?_
  refine wg hy ?_;exact (nodeF_ok h hy).1
 refine an2 (srt2_ok ez hd) fun s1 s2=>?_
 refine A0 rfl (A0 (at_ rfl rfl trivial) (y_members h e1 e2 fun l' pm=>?_))
 have pp:=mapO_perm (0,[]) e3 pm
 have zl:l'.length≤2:=by have:=pp.length_eq;rw[A4] at this;(refine wg this ?_;exact ez)
 refine Dq (f:=fun v=>BI ((FG p (Dv v)).getD (0,[]))) (by refine wg (A4 ..) ?_;exact up zl rfl) trivial (fun v hv Z z=>?_) ?_
 ·refine BD (B5.mp hv) fun i hi hh2=>?_;obtain rfl:=hh2
  refine ex1 (e5 i (pm.mem_iff.mp hi)) fun y hy=>?_
  have z:Z (BI ((FG p i).getD (0,[]))) (H p x):=z
  rw[hy] at z
  exact A0 (at_ rfl rfl trivial) (y_node h hy z)
 ·have em:(l'.map iN).map (fun v=>BI ((FG p (Dv v)).getD (0,[])))=(l'.map fun n=>(FG p n).getD (0,[])).map BI:=by refine wg G2 (wg G2 ?_);rfl
  refine wg em ?_
  have mem:∀v,v∈(l'.map fun n=>(FG p n).getD (0,[])).map BI↔v∈(srt2 ds0).map BI:=fun v=>by
   rw[B5,B5]
   exact exists_congr fun d=>and_congr_left fun zz=>pp.mem_iff.trans (s1 d).symm
  refine A0 (.inr ⟨?_,fun v hv=>?_,fun v hv w hw=>?_⟩) fun l2 nd2 m2 a2=>?_
  ·refine wg (A4 ..) (wg (A4 ..) ?_);exact zl
  ·refine BD (B5.mp hv) fun d hd' hh2=>?_;obtain rfl:=hh2
   exact ⟨DB (hd d (pp.mem_iff.mp hd')),_,_,rfl⟩
  ·refine BD (B5.mp hv) fun d zz hh2=>?_;obtain rfl:=hh2
   refine BD (B5.mp hw) fun d' zz hh2=>?_;obtain rfl:=hh2
   exact nd_cmp
  ·have:l2=(srt2 ds0).map BI:=Asc.uniq a2 s2 ((List.perm_ext_iff_of_nodup nd2 s2.nodup).mpr fun v=>(m2 v).trans (mem v))
   refine wg this ?_;exact k
end
section
variable {l:List (V×V)} {k k' v w:V}
theorem GN (h:BR l k=some v):(k,v)∈l:=by
 unfold BR at h
 refine BD (Option.bind_eq_some_iff.mp h) fun j e h=>?_
 refine BD (J4.mp e) fun hj e1 zz=>?_
 have e1:=of_decide_eq_true e1
 refine BD (I9.mp h) fun p e2 e3=>?_
 rw[B4 hj] at e2
 cases e2
 refine wh e1 (wh e3 ?_)
 exact N2 hj
theorem EJ (nd:(l.map (·.1)).Nodup) (ne:k'≠k) (h:BR l k'=some w):BR (Bc l k v) k'=some w:=by
 refine Cc (Da nd) ?_
 have m:=GN h
 rcases putD_cases (l:=l) (k:=k) with ⟨j,p,_,e2,e⟩ | ⟨_,e⟩
 ·refine wg (e ..) ?_
  refine ex1 (Y5 m) fun i hi=>?_
  refine B9 (i:=i) ?_
  refine wg q9 ?_
  split
  ·rename_i q
   subst q
   rw[e2] at hi
   cases hi;exact absurd rfl ne
  ·exact hi
 ·refine wg (e ..) ?_;exact D0 _ m
theorem del_cases:El l k=l∨∃j,at' l k=some j∧El l k=l.eraseIdx j:=by
 unfold El
 cases at' l k with
 | none=>exact .inl rfl
 | some j=>exact .inr ⟨j,rfl,rfl⟩
theorem ET:(El l k).Sublist l:=by
 rcases del_cases (l:=l) (k:=k) with e | ⟨j,_,e⟩
 ·refine wg e ?_;exact List.Sublist.refl _
 ·refine wg e ?_;exact List.eraseIdx_sublist _ _
theorem Gj (nd:(l.map (·.1)).Nodup) (ne:k'≠k) (h:BR l k'=some w):BR (El l k) k'=some w:=by
 refine Cc ((ET.map _).nodup nd) ?_
 have m:=GN h
 rcases del_cases (l:=l) (k:=k) with e | ⟨j,ej,e⟩
 ·refine wg e ?_;exact m
 ·refine wg e ?_
  refine BD (J4.mp ej) fun hj e1 zz=>?_
  have e1:=of_decide_eq_true e1
  refine ex1 (AM m) fun i hh=>?_;refine ex1 hh fun hi e2=>?_;clear hh
  refine List.mem_eraseIdx_iff_getElem.mpr ⟨i,hi,fun q=>?_,e2⟩
  subst q
  rw[e2] at e1
  exact ne e1
end
structure Fr (x x':HS):Prop where
 r:x'.row=x.row
 p:x'.pos=x.pos
 a:∃t,x'.as=x.as++t∧∀a∈t,x.v.length≤a
 z:x.v.length≤x'.v.length
 f:∀i o,(∀a∈x.as,i≠a∧i≠a+1)→x.v.f i=some o→x'.v.f i=some o
theorem Fr.refl {x:HS}:Fr x x:=⟨rfl,rfl,⟨[],(D8 _).symm,nofun⟩,B2 _,fun zz zz zz h=>h⟩
theorem Fr.trans {x x' x'':HS} (h:Fr x x') (h':Fr x' x''):Fr x x'':=by
 refine BD h.a fun t e ht=>?_
 refine BD h'.a fun t' e' ht'=>?_
 refine ⟨h'.r.trans h.r,h'.p.trans h.p,⟨t++t',by exact wg e' (wg e (wg (E5 ..) rfl)),fun a ha=>(C5.mp ha).elim (ht a) fun m=>A3 h.z (ht' a m)⟩,A3 h.z h'.z,fun i o hi q=>h'.f i o (fun a ha=>?_) (h.f i o hi q)⟩
 rw[e] at ha
 rcases C5.mp ha with m | m
 ·exact hi a m
 ·have:=ht a m
  have:=DF q
  omega
noncomputable def mnN (x y:Nat):Nat:=I6 y x (K0 x y)
noncomputable def mxN (x y:Nat):Nat:=I6 x y (K0 x y)
noncomputable def joinP (p:PS) (i j:Nat) (lk lg uk ug:List Nat):PS:={p with ab:=p.ab.set j i,lo:=p.lo.set i (lk++lg),us:=(p.us.set j none).set i (some (uk++ug)),wt:=p.wt++ug,ed:=p.ed+1}
noncomputable def HY (p:PS) (a b:Nat):Option PS:=bo (Bp p.ab 20 a) fun x=>bo (Bp p.ab 20 b) fun y=>gd (K0 p.ed 900) (I6 (bo (nth p.lo (mnN x y)) fun lk=>bo (nth p.lo (mxN x y)) fun lg=>bo (nth p.us (mnN x y)) fun o=>bo o fun uk=>bo (nth p.us (mxN x y)) fun o=>bo o fun ug=>
  gd (an (K0 (lk.length+lg.length) 59) (an (K0 (p.wt.length+ug.length) 900) (K0 (uk.length+ug.length) 900))) (some (joinP p (mnN x y) (mxN x y) lk lg uk ug))) (some {p with ed:=p.ed+1}) (H7 x y))
theorem mn_cases {x y:Nat}:mnN x y=x∧mxN x y=y∧x≤y∨mnN x y=y∧mxN x y=x∧y≤x:=by
 unfold mnN mxN
 cases e:K0 x y with
 | true=>exact .inl ⟨rfl,rfl,A6 e⟩
 | false=>exact .inr ⟨rfl,rfl,(Nat.le_total x y).resolve_left fun h=>H0 (e.symm.trans (M8 h))⟩
theorem CT {α:Type} {b:Bool} {x:Option α} {y:α} (h:gd b x=some y):b=true∧x=some y:=by
 cases b with
 | true=>exact ⟨rfl,h⟩
 | false=>cases h
theorem Gk {x y:Nat} {m:List Int} (p:m.Perm [(x:Int),(y:Int)]) (s:m.Pairwise (·≤·)):m=[((mnN x y:Nat):Int),((mxN x y:Nat):Int)]:=by
 have q:[((mnN x y:Nat):Int),((mxN x y:Nat):Int)].Perm [(x:Int),(y:Int)]∧mnN x y≤mxN x y:=by
  rcases mn_cases (x:=x) (y:=y) with ⟨e1,e2,h⟩ | ⟨e1,e2,h⟩
  ·refine wg e1 (wg e2 ?_);exact ⟨List.Perm.refl _,h⟩
  ·refine wg e1 (wg e2 ?_);exact ⟨List.Perm.swap _ _ _,h⟩
 exact (p.trans q.1.symm).eq_of_pairwise (fun a b zz zz h1 h2=>Int.le_antisymm h1 h2) s (Ag.mpr (T9.mpr q.2))
section
variable {sc:Addr} {ns:List Int} {p:PS} {x:HS}
noncomputable def mergeP (p:PS) (i j:Nat):PS:={p with ab:=p.ab.set j i}
noncomputable def mergeX (x:HS) (i j ak:Nat) (l:List V):HS:={x with mg:=x.mg++[.tup [iN i,iN j]],v:=x.v.put ak (.list l)}
theorem um_tail (h:Rep p x) {i j ak ag:Nat} {lk lg:List Nat} {v1 v2:Option V} {N:Lc→Hp→Prop} {R:KV} (zj:j<(p.ab.map iN).length) (hk:x.as[i]?=some ak) (hg:x.as[j]?=some ag) (hi:x.v.f ak=some (.list (lk.map iN))) (hj:x.v.f ag=some (.list (lg.map iN))) (lz:lk.length+lg.length≤4096) (kk:R (.tup [iN i,iN j]) (H (mergeP p i j) (mergeX x i j ak (lk.map iN++lg.map iN)))):
  xseq (BO (BB 3) (De setL (xun (BM 346 0) (BB 0)) (BB 4))) (xseq (BX (xbm 0 CZ (BJ BN (xun (BM 346 1) (BB 0)) (BB 3)) [(BJ BN (xun (BM 346 1) (BB 0)) (BB 4))])) (xseq (BX (xbm 0 BZ (xun (BM 346 2) (BB 0)) [(BW [(BB 3),(BB 4)])])) (xseq (Ba (BW [(BB 3),(BB 4)])) BF))) [some (.loc 10),v1,v2,some (iN i),some (iN j)] (H p x) N R:=by
 have zl:(p.ab.map iN).length≤4096:=by refine wg (A4 ..) (wg h.zn.2.1 ?_);exact A3 h.zn.1 (by decide)
 have ga:∀{i a:Nat},x.as[i]?=some a→(x.as.map fun a=>V.loc (a+20))[i]?=some (.loc (a+20)):=fun q=>by refine wg G0 (wg q ?_);rfl
 refine at_ rfl rfl (A0 rfl (pL_ rfl (A0 ⟨C6 _,zj,zl⟩ ?_)))
 have es:(p.ab.map iN).set (m4 ((j:Nat):Int)) (iN i)=(p.ab.set j i).map iN:=AT.symm
 refine wg es ?_
 refine at_ rfl rfl (A0 rfl (pL_ rfl (A0 ⟨h.za,C6 _⟩ (so_ (ga hk) (A0 (pL_ hi trivial) (at_ rfl rfl (A0 rfl (pL_ rfl (A0 ⟨h.za,C6 _⟩ (so_ (ga hg) ?_))))))))))
 refine pL_ hi (pL_ hj (A0 (by refine wg (A4 ..) (wg (A4 ..) ?_);exact lz) ?_))
 refine at_ rfl rfl (A0 rfl (A0 (pL_ rfl trivial) (pL_ rfl (A0 ?_ kk))))
 exact A3 h.zm.1 (A3 h.zm.2.2.2 (by decide))
theorem join_ {a b:Nat} {p':PS} {C:Prop} (e:HY p a b=some p') (same:∀c,p.ed≤900→Bp p.ab 20 a=some c→Bp p.ab 20 b=some c→p'={p with ed:=p.ed+1}→C)
  (new:∀c d lk lg uk ug,p.ed≤900→Bp p.ab 20 a=some c→Bp p.ab 20 b=some d→c≠d→p.lo[mnN c d]?=some lk→p.lo[mxN c d]?=some lg→p.us[mnN c d]?=some (some uk)→p.us[mxN c d]?=some (some ug)→lk.length+lg.length≤59→p.wt.length+ug.length≤900→uk.length+ug.length≤900→p'=joinP p (mnN c d) (mxN c d) lk lg uk ug→C):C:=by
 refine bo_ e fun c ea e=>bo_ e fun d eb e=>?_
 have q:=CT e
 clear e
 have hz:=A6 q.1
 have e:=q.2
 cases eb':H7 c d with
 | true=>
  rw[eb'] at e
  exact same c hz ea (F6 eb'▸eb) (G9 e).symm
 | false=>
  rw[eb'] at e
  refine CI e fun lk e3 e=>CI e fun lg e4 e=>CI e fun ok e5 e=>bo_ e fun uk q5 e=>CI e fun og e6 e=>bo_ e fun ug q6 e=>?_
  have w:=CT e
  have w1:=an_ w.1
  have w2:=an_ w1.2
  exact new c d lk lg uk ug hz ea eb (fun q=>by rw[q,R7] at eb';cases eb') e3 e4 (q5▸e5) (q6▸e6) (A6 w1.1) (A6 w2.1) (A6 w2.2) (G9 w.2).symm
theorem um_same (h:Rep p x) {a b c m:Nat} {K:KV} (ea:Bp p.ab 20 a=some c) (eb:Bp p.ab 20 b=some c) (k:K .none (H p x)):Phi sc ns (m+2) 310 [.loc 10,iN a,iN b] (H p x) K:=by
 refine A0 rfl (A0 (at_ rfl rfl trivial) (ES h ea (A0 (at_ rfl rfl trivial) (ES h eb ⟨[(c:Int),(c:Int)],rfl,A6 rfl,fun m' pm ps=>?_⟩))))
 refine wg (Gk pm ps) ?_
 exact A0 rfl (A0 ⟨rfl,rfl⟩ (A0 (fun zz=>k) fun e=>absurd (mn_cases.elim (fun w=>w.1.trans w.2.1.symm) fun w=>w.1.trans w.2.1.symm:mnN c c=mxN c c) (of_decide_eq_false (FE.symm.trans e))))
theorem um_new (h:Rep p x) {a b c d m ak ag:Nat} {lk lg:List Nat} {K:KV} (ea:Bp p.ab 20 a=some c) (eb:Bp p.ab 20 b=some d) (ne:mnN c d≠mxN c d) (gk:p.lo[mnN c d]?=some lk) (gg:p.lo[mxN c d]?=some lg) (hk:x.as[mnN c d]?=some ak) (hg:x.as[mxN c d]?=some ag) (lz:lk.length+lg.length≤4096)
  (k:K (.tup [iN (mnN c d),iN (mxN c d)]) (H (mergeP p (mnN c d) (mxN c d)) (mergeX x (mnN c d) (mxN c d) ak (lk.map iN++lg.map iN)))):Phi sc ns (m+2) 310 [.loc 10,iN a,iN b] (H p x) K:=by
 refine A0 rfl (A0 (at_ rfl rfl trivial) (ES h ea (A0 (at_ rfl rfl trivial) (ES h eb ⟨[(c:Int),(d:Int)],rfl,A6 rfl,fun m' pm ps=>?_⟩))))
 refine wg (Gk pm ps) ?_
 refine A0 rfl (A0 ⟨rfl,rfl⟩ (A0 (fun e=>absurd (of_decide_eq_true (FE.symm.trans e)) ne) fun zz=>?_))
 exact um_tail h (by refine wg (A4 ..) (wg h.zn.2.1 (wh h.zn.2.2.1 ?_));exact (B6.mp gg).1) hk hg (h.la hk gk).1 (h.la hg gg).1 lz k
end
theorem aL_ {hp:Hp} {v:V} {l:List V} {k:List V→Prop} (h:v= .lst l∨∃a,v= .loc a∧hp.f a=some (.list l)) (q:k l):aL hp v k:=by
 rcases h with rfl | ⟨a,rfl,h⟩
 ·exact q
 ·exact pL_ h q
theorem get_set {α:Type} {l:List α} {i j:Nat} {v w:α} (h:(l.set i v)[j]?=some w):(i=j∧w=v)∨(i≠j∧l[j]?=some w):=by
 rw[q9] at h
 split at h
 ·rename_i q
  split at h
  ·exact .inl ⟨q,(G9 h).symm⟩
  ·cases h
 ·rename_i q
  exact .inr ⟨q,h⟩
section
variable {sc:Addr} {ns:List Int} {p:PS} {x:HS}
theorem sp_ne {as:List Nat} {i j a b:Nat} (h:as.Pairwise fun a b=>a+2≤b) (hi:as[i]?=some a) (hj:as[j]?=some b) (ne:i≠j):a+2≤b∨b+2≤a:=by
 refine ex1 (B6.mp hi) fun zi hh1=>?_;obtain rfl:=hh1
 refine ex1 (B6.mp hj) fun zj hh1=>?_;obtain rfl:=hh1
 have h:=i4.mp h
 rcases AQ i j with q | q
 ·exact .inl (h i j zi zj q)
 ·exact .inr (h j i zj zi (P3 q (N6 ne)))
theorem Rep.edge (h:Rep p x) {e:V} (hz:p.ed≤900):Rep {p with ed:=p.ed+1} {x with ed:=x.ed++[e]}:=
 ⟨h.w7,h.w8,⟨E7 h.zm.1,by show (x.ed++[e]).length=p.ed+1;refine wg A7 (wg h.zm.2.1 ?_);rfl,E7 h.zm.2.2.1,by show p.ed+1≤1000;exact B1 (up hz rfl)⟩,h.zn,h.zk,h.la,h.a2,h.sp,h.un,h.uk,h.u,fun e=>(nomatch e),h.nd,h.kn⟩
theorem Rep.uz (h:Rep p x):x.us.length≤4096:=A3 h.uk.2 (A3 h.zn.1 (by decide))
theorem Rep.ukey (h:Rep p x) {c:Nat}:Br x.us (iN c):=⟨rfl,h.uk.1,h.uz⟩
noncomputable def joinX (x:HS) (i j ak:Nat) (lk lg uk ug:List Nat) (e f:V):HS:={x with mg:=x.mg++[.tup [iN i,iN j]],ed:=x.ed++[e],fo:=x.fo++[f],ub:=false,us:=Bc (El x.us (iN j)) (iN i) (.lst ((uk++ug).map iN)),v:=x.v.put ak (.list ((lk++lg).map iN))}
theorem Rep.join (h:Rep p x) {i j ak:Nat} {lk lg uk ug:List Nat} {vk e f:V} (hz:p.ed≤900) (ne:i≠j) (gk:p.lo[i]?=some lk) (hk:x.as[i]?=some ak) (lkv:BR x.us (iN i)=some vk) (w1:lk.length+lg.length≤59) (w2:p.wt.length+ug.length≤900) (w3:uk.length+ug.length≤900):Rep (joinP p i j lk lg uk ug) (joinX x i j ak lk lg uk ug e f):=by
 have nu:((El x.us (iN j)).map (·.1)).Nodup:=(ET.map _).nodup h.un
 have zm:=h.zm
 have zn:=h.zn
 have ni:∀{a b:Nat},a≠b→iN a≠iN b:=fun q e=>q (L8 (V.int.inj e))
 have ak1:=fun {c a:Nat} (ha:x.as[c]?=some a) (q:i≠c)=>sp_ne h.sp hk ha q
 refine ⟨h.w7,h.w8,⟨?_,?_,?_,A3 (B1 hz) (by decide)⟩,⟨zn.1,?_,?_,zn.2.2.2.1,?_⟩,⟨h.zk.1,?_⟩,fun {c a' l} ha hl=>?_,fun a ha=>A3 (h.a2 a ha) (B3 DT.symm),h.sp,Da nu,⟨fun q hq=>?_,?_⟩,fun {c l} hl=>?_,fun e=>(nomatch e),h.nd,h.kn⟩
 ·exact A3 (B3 A7) (B1 zm.1)
 ·exact A7.trans (congrArg c9 zm.2.1)
 ·exact A3 (B3 A7) (B1 zm.2.2.1)
 ·exact O4.trans zn.2.1
 ·exact O4.trans zn.2.2.1
 ·exact O4.trans (O4.trans zn.2.2.2.2)
 ·exact A3 (B3 A7) (A3 w2 (by decide))
 ·rcases get_set (l:=p.lo) hl with ⟨q2,q3⟩ | ⟨q2,hl⟩
  ·rw[←q2] at ha
   cases ha.symm.trans hk
   refine wg q3 ?_
   exact ⟨CG (DF (h.la hk gk).1),A3 (B3 A7) w1⟩
  ·have w:=h.la ha hl
   exact ⟨(Bb fun q3=>(ak1 ha q2).elim (fun z=>P6 _ (E8 (q3▸z))) fun z=>P6 _ (E8 (q3▸z))).trans w.1,w.2⟩
 ·exact (putD_mem hq).elim (fun q=>by refine wg q ?_;rfl) fun m=>h.uk.1 q (ET.subset m)
 ·have m1:iN i∈(El x.us (iN j)).map (·.1):=H1 (f:=(·.1)) (GN (Gj h.un (ni ne) lkv))
  show (Bc _ _ _).length≤p.nd.length
  rcases putD_cases (l:=El x.us (iN j)) (k:=iN i) with ⟨_,_,_,_,q2⟩ | ⟨q2,_⟩
  ·refine wg (q2 ..) (wg O4 ?_);exact A3 ET.length_le h.uk.2
  ·exact absurd m1 q2
 ·rcases get_set (l:=p.us.set j none) hl with ⟨q2,q3⟩ | ⟨q2,hl⟩
  ·cases q3
   refine wh q2 ?_
   exact ⟨A3 (B3 A7) (A3 w3 (by decide)),.inl (Ct nu)⟩
  ·rcases get_set hl with ⟨_,q3⟩ | ⟨q3,hl⟩
   ·cases q3
   have w:=h.u hl
   refine ⟨w.1,w.2.imp (fun q4=>EJ nu (ni q2.symm) (Gj h.un (ni q3.symm) q4)) fun x=>x.imp fun a' z=>⟨z.1,EJ nu (ni q2.symm) (Gj h.un (ni q3.symm) z.2.1),(Bb fun q7=>?_).trans z.2.2⟩⟩
   exact (ak1 z.1 q2).elim (fun w=>P6 _ (E8 (E8 (q7▸w)))) fun w=>P6 _ (q7▸w)
theorem Rep.uv (h:Rep p x) {i c:Nat} {ak:Nat} {o:PO} (hk:x.as[i]?=some ak) {l:List Nat} (hc:p.us[c]?=some (some l)):∃v,BR x.us (iN c)=some v∧(v= .lst (l.map iN)∨∃a,v= .loc (a+21)∧(x.v.put ak o).f (a+1)=some (.list (l.map iN))):=by
 rcases (h.u hc).2 with q | ⟨a',q1,q2,q3⟩
 ·exact ⟨_,q,.inl rfl⟩
 ·refine ⟨_,q2,.inr ⟨a',rfl,(Bb fun q4=>?_).trans q3⟩⟩
  by_cases q5:i=c
  ·subst q5
   rw[hk] at q1
   cases q1;exact E4 (G7 _) q4
  ·exact (sp_ne h.sp hk q1 q5).elim (fun z=>P6 _ (E8 (E8 (q4▸z)))) fun z=>P6 _ (q4▸z)
theorem jo_tail (h:Rep p x) {i j a b ak:Nat} {lk lg uk ug:List Nat} {rv:V} {K:KV} (hz:p.ed≤900) (ne:i≠j) (gk:p.lo[i]?=some lk) (hk:x.as[i]?=some ak) (e5:p.us[i]?=some (some uk)) (e6:p.us[j]?=some (some ug)) (w1:lk.length+lg.length≤59) (w2:p.wt.length+ug.length≤900) (w3:uk.length+ug.length≤900)
  (k:∀x' r,Rep (joinP p i j lk lg uk ug) x'→Fr x x'→x'.as=x.as→x'.ln=x.ln→K (.bool r) (H (joinP p i j lk lg uk ug) x')):
  x_jo_t [some (.loc 2),some (iN a),some (iN b),some rv,some (.tup [iN i,iN j]),none,none] (H (mergeP {p with ed:=p.ed+1} i j) (mergeX {x with ed:=x.ed++[.tup [iN a,iN b,rv]]} i j ak (lk.map iN++lg.map iN))) (fun zz hp=>K .none hp) K:=by
 refine BD (h.uv (o:= .list (lk.map iN++lg.map iN)) hk e5) fun vk lk1 lk2=>?_
 refine BD (h.uv (o:= .list (lk.map iN++lg.map iN)) hk e6) fun vg lg1 lg2=>?_
 have al:∀{v:V} {l:List Nat} {hp:Hp} {k:List V→Prop},(v= .lst (l.map iN)∨∃a,v= .loc (a+21)∧(x.v.put ak (.list (lk.map iN++lg.map iN))).f (a+1)=some (.list (l.map iN)))→(∀a,hp.f (a+20)=(x.v.put ak (.list (lk.map iN++lg.map iN))).f a)→k (l.map iN)→aL hp v k:=fun hv hh kk=>aL_ (hv.imp id fun ⟨a,e,q⟩=>⟨a+21,e,(hh (a+1)).trans q⟩) kk
 have zm:=h.zm
 have zed:(x.ed++[V.tup [iN a,iN b,rv]]).length≤4096:=by refine wg A7 (wg zm.2.1 ?_);exact A3 (B1 zm.2.2.2) (by decide)
 refine A0 (fun e=>nomatch e) fun zz=>A0 rfl ?_
 refine at_ rfl rfl (A0 rfl (A0 (pL_ rfl trivial) (at_ rfl rfl (A0 rfl (DX rfl (A0 zed (pL_ rfl (A0 (A3 zm.2.2.1 (A3 zm.2.2.2 (by decide))) ?_))))))))
 refine at_ rfl rfl (A0 rfl (A0 (pL_ rfl trivial) (at_ rfl rfl (A0 rfl (pD_ rfl (A0 h.ukey (so_ lg1 (pL_ rfl (al lg2 (fun zz=>rfl) (A0 ?_ ?_))))))))))
 ·refine wg (A4 ..) (wg (A4 ..) ?_);exact A3 w2 (by decide)
 refine at_ rfl rfl (A0 rfl (pD_ rfl (A0 h.ukey (so_ lk1 ?_))))
 refine at_ rfl rfl (A0 rfl (A0 (pD_ rfl trivial) (pD_ rfl (A0 h.ukey (so_ lg1 (al lk2 (fun zz=>rfl) (al lg2 (fun zz=>rfl) (A0 ?_ ?_))))))))
 ·refine wg (A4 ..) (wg (A4 ..) ?_);exact A3 w3 (by decide)
 have okd:Br (El x.us (iN j)) (iN i):=⟨rfl,fun p hp=>h.uk.1 p (ET.subset hp),A3 ET.length_le h.uz⟩
 refine at_ rfl rfl (A0 rfl (pD_ rfl (A0 okd ?_)))
 refine wh G5 (wh G5 (wh G5 ?_))
 exact k (joinX x i j ak lk lg uk ug _ _) true (h.join hz ne gk hk lk1 w1 w2 w3) ⟨rfl,rfl,⟨[],(D8 _).symm,nofun⟩,B3 DT.symm,fun i o hi q=>(Bb fun q2=>(hi ak (B9 hk)).1 q2.symm).trans q⟩ rfl rfl
theorem y_join (h:Rep p x) {a b m:Nat} {rv:V} {p':PS} {K:KV} (e:HY p a b=some p') (k:∀x' r,Rep p' x'→Fr x x'→x'.as=x.as→x'.ln=x.ln→K (.bool r) (H p' x')):Phi sc ns (m+3) 423 [.loc 2,iN a,iN b,rv] (H p x) K:=by
 refine join_ e (fun c hz ea eb ep=>?_) fun c d lk lg uk ug hz ea eb ne gk gg e5 e6 w1 w2 w3 ep=>?_
 ·subst ep
  have h1:=h.edge (e:= .tup [iN a,iN b,rv]) hz
  have zed:x.ed.length≤4096:=by refine wg h.zm.2.1 ?_;exact A3 hz (by decide)
  refine A0 rfl (at_ rfl rfl (A0 rfl (A0 (pL_ rfl trivial) (pL_ rfl (A0 zed ?_)))))
  refine at_ rfl rfl (A0 rfl (A0 (at_ rfl rfl trivial) ?_))
  exact um_same h1 ea eb (A0 (fun zz=>k _ _ h1 ⟨rfl,rfl,⟨[],(D8 _).symm,nofun⟩,B2 _,fun zz zz zz h=>h⟩ rfl rfl) fun e=>nomatch e)
 ·subst ep
  have h1:=h.edge (e:= .tup [iN a,iN b,rv]) hz
  have zed:x.ed.length≤4096:=by refine wg h.zm.2.1 ?_;exact A3 hz (by decide)
  have ij:mnN c d≠mxN c d:=mn_cases.elim (fun w e=>ne (w.1.symm.trans (e.trans w.2.1))) fun w e=>ne (w.2.1.symm.trans (e.symm.trans w.1))
  have as_:∀{i:Nat} {l:List Nat},p.lo[i]?=some l→∃a,x.as[i]?=some a:=fun q=>⟨_,B4 (h.zn.2.2.2.1.symm▸h.zn.2.2.1▸(B6.mp q).1)⟩
  refine (as_ gk).elim fun ak hk=>(as_ gg).elim fun ag hg=>?_
  refine A0 rfl (at_ rfl rfl (A0 rfl (A0 (pL_ rfl trivial) (pL_ rfl (A0 zed ?_)))))
  refine at_ rfl rfl (A0 rfl (A0 (at_ rfl rfl trivial) ?_))
  exact um_new h1 ea eb ij gk gg hk hg (A3 w1 (by decide)) (jo_tail h hz ij gk hk e5 e6 w1 w2 w3 k)
end
theorem oV_s {o:Option V} {v:V} {s:V→Prop} {n:Prop} (h:o=some v) (q:s v):oV o s n:=by unfold oV;refine wg h ?_;exact q
theorem oV_n {o:Option V} {s:V→Prop} {n:Prop} (h:o=none) (q:n):oV o s n:=by unfold oV;refine wg h ?_;exact q
noncomputable def Cn (l:List (Nd×Nat)) (d:Nd):Option Nat:=I8 none (fun p zz ih=>I6 ih (some p.2) (Cg p.1 d)) l
noncomputable def Fw (p:PS) (n:Nat):Option PS:=bo (FG p n) fun d=>Y0 (bo (Bp p.ab 20 n) fun zz=>gd (K0 p.kn.length 900) (some {p with kn:=p.kn++[(d,n)]})) (fun o=>bo (Bp p.ab 20 o) fun x=>bo (Bp p.ab 20 n) fun y=>I6 (HY p o n) (some p) (H7 x y)) (Cn p.kn d)
noncomputable def EK (f:Nat):PS→Option PS:=Aq (fun zz=>none) (fun zz ih p=>Y0 (some p) (fun n=>bo (Fw {p with wt:=p.wt.dropLast} n) ih) p.wt.getLast?) f
theorem Ib {d:Nd} (hd:d.1<16):∀{l:List (Nd×Nat)},(∀p∈l,p.1.1<16)→BR (knV l) (BI d)=(Cn l d).map iN∧(Cn l d=none→BI d∉(knV l).map (·.1)):=by
 intro l
 induction l with
 | nil=>exact fun zz=>⟨rfl,fun zz=>nofun⟩
 | cons p l ih=>
  intro h
  have q:=ih fun p hp=>h p (.tail _ hp)
  unfold BR at q ⊢
  unfold at' at q ⊢
  show (As _ (_::knV l)).bind _=(I6 (Cn l d) (some p.2) (Cg p.1 d):Option Nat).map iN∧((I6 (Cn l d) (some p.2) (Cg p.1 d):Option Nat)=none→BI d∉BI p.1::(knV l).map (·.1))
  refine wg W6 ?_
  cases e:Cg p.1 d with
  | true=>
   have e:=Ch.mp e
   refine wg (show decide (((fun p:Nd×Nat=>(BI p.1,iN p.2)) p).1=BI d)=true from decide_eq_true (congrArg BI e)) ?_
   exact ⟨rfl,fun e=>(nomatch e)⟩
  | false=>
   have ne:BI p.1≠BI d:=fun q=>by
    rw[Ch.mpr (node_inj (h p (.head _)) hd q)] at e;cases e
   refine wg (show decide (((fun p:Nd×Nat=>(BI p.1,iN p.2)) p).1=BI d)=false from decide_eq_false ne) ?_
   refine ⟨?_,fun e m=>(C4.mp m).elim (fun q=>ne q.symm) (q.2 e)⟩
   refine Eq.trans ?_ q.1
   show (V3 _ _).bind _=_
   refine wg Option.bind_map ?_;rfl
section
variable {sc:Addr} {ns:List Int} {p:PS} {x:HS}
theorem Rep.kkey (h:Rep p x) {d:Nd} (hd:d.1<16):Br (knV p.kn) (BI d):=⟨DB hd,fun q hq=>by refine BD (B5.mp hq) fun r zz hh2=>?_;obtain rfl:=hh2;rfl,by show (p.kn.map _).length≤4096;refine wg (A4 ..) ?_;have:=h.zk.1;exact up this rfl⟩
theorem y_look (h:Rep p x) {n m:Nat} {p':PS} {K:KV} (e:Fw p n=some p') (k:∀x',Rep p' x'→Fr x x'→x'.as=x.as→x'.ln=x.ln→K .none (H p' x')):Phi sc ns (m+4) 395 [.loc 2,iN n] (H p x) K:=by
 refine bo_ e fun d ed e=>?_
 have hd:=nodeF_ok h ed
 refine an2 (Ib (l:=p.kn) hd.1 fun p hp=>(h.kn p hp).1) fun g1 g2=>?_
 refine A0 rfl (at_ rfl rfl (A0 rfl (A0 (pD_ rfl trivial) (A0 (at_ rfl rfl trivial) (y_node h ed (pD_ rfl (A0 (h.kkey hd.1) ?_)))))))
 cases ek:Cn p.kn d with
 | none=>
  rw[ek] at e g1
  refine bo_ e fun c ec e=>?_
  refine an2 (CT e) fun z e=>?_
  cases e
  have z:=A6 z
  have en:Bc (knV p.kn) (BI d) (iN n)=knV (p.kn++[(d,n)]):=(Cd (g2 ek)).trans (G5 (l₁:=p.kn) (l₂:=[(d,n)])).symm
  have h':Rep {p with kn:=p.kn++[(d,n)]} x:=⟨h.w7,h.w8,h.zm,h.zn,⟨by show (p.kn++[_]).length≤1000;refine wg A7 ?_;exact A3 (B1 z) (by decide),h.zk.2⟩,h.la,h.a2,h.sp,h.un,h.uk,h.u,h.u0,h.nd,fun q hq=>(C5.mp hq).elim (h.kn q) fun m=>(A8.mp m)▸hd⟩
  refine oV_n g1 ?_
  refine wg en ?_
  show xseq _ BF [some (.loc 2),some (iN n),some (iN n)] (H {p with kn:=p.kn++[(d,n)]} x) _ _
  refine A0 (at_ rfl rfl trivial) (EI h' ec (A0 (at_ rfl rfl trivial) (EI h' ec (A0 ⟨rfl,rfl⟩ (A0 (fun q=>?_) fun zz=>k x h' .refl rfl rfl)))))
  exact absurd rfl (DW q)
 | some o=>
  rw[ek] at e g1
  refine bo_ e fun c ec e=>bo_ e fun c' ec' e=>?_
  refine oV_s g1 ?_
  refine A0 (at_ rfl rfl trivial) (EI h ec (A0 (at_ rfl rfl trivial) (EI h ec' (A0 ⟨rfl,rfl⟩ (A0 (fun q=>?_) fun q=>?_)))))
  ·have ne:c≠c':=fun q2=>DW q (by exact wg q2 rfl)
   cases eb:H7 c c' with
   | true=>exact absurd (F6 eb) ne
   | false=>
    rw[eb] at e
    exact A0 (at_ rfl rfl trivial) (y_join h e fun x' r h1 h2 h3 h4=>k x' h1 h2 h3 h4)
  ·have q:=L8 (V.int.inj (Dr q))
   subst q
   rw[R7] at e
   cases e
   exact k x h .refl rfl rfl
theorem y_merge (h:Rep p x) {a b m:Nat} {rv:V} {p':PS} {K:KV} (e:HY p a b=some p') (k:∀x' r,Rep p' x'→Fr x x'→x'.as=x.as→x'.ln=x.ln→K (.bool r) (H p' x')):Phi sc ns (m+4) 416 [.loc 2,iN a,iN b,rv] (H p x) K:=
 A0 rfl (A0 (at_ rfl rfl trivial) (y_join h e k))
theorem y_settle (h:Rep p x) {f m:Nat} {p':PS} {K:KV} (e:EK f p=some p') (k:∀x',Rep p' x'→Fr x x'→x'.as=x.as→x'.ln=x.ln→K .none (H p' x')):Phi sc ns (m+5) 430 [.loc 2] (H p x) K:=by
 refine A0 rfl (Az f ?_)
 refine x_wh (I:=fun f lc hp=>∃p1 x1,EK f p1=some p'∧Rep p1 x1∧Fr x x1∧x1.as=x.as∧x1.ln=x.ln∧lc=[some (.loc 2)]∧hp=H p1 x1) (fun lc hp x=>x.elim fun zz x=>x.elim fun zz w=>(nomatch w.1)) (fun f lc hp Z I hZ=>?_) f ⟨p,x,e,h,.refl,rfl,rfl,rfl,rfl⟩
 refine DJ I fun p1 x1 e h hf hh=>?_;clear I;refine an4 hh fun ha hl hh2 hh3=>?_;clear hh;obtain rfl:=hh2;obtain rfl:=hh3
 have zw:(p1.wt.map iN).length≤1000:=by refine wg (A4 ..) ?_;exact h.zk.2
 have e:(Y0 (some p1) (fun n=>bo (Fw {p1 with wt:=p1.wt.dropLast} n) (EK f)) p1.wt.getLast?:Option PS)=some p':=e
 refine at_ rfl rfl (A0 rfl (DX rfl (A0 (up zw rfl) (A0 (fun q=>?_) fun q=>?_))))
 ·have q:=of_decide_eq_true q
  cases el:p1.wt.getLast? with
  | none=>
   rw[List.getLast?_eq_none_iff.mp el] at q
   exact absurd q (by decide)
  | some n=>
   rw[el] at e
   refine bo_ e fun p2 e1 e2=>?_
   have gl:(p1.wt.map iN).getLast?=some (iN n):=by refine wg List.getLast?_map (wg el ?_);rfl
   have h':Rep {p1 with wt:=p1.wt.dropLast} x1:=⟨h.w7,h.w8,h.zm,h.zn,⟨h.zk.1,by show (p1.wt.dropLast).length≤1000;refine wg List.length_dropLast ?_;have:=h.zk.2;exact A3 (AW _ 1) this⟩,h.la,h.a2,h.sp,h.un,h.uk,h.u,h.u0,h.nd,h.kn⟩
   refine A0 (at_ rfl rfl trivial) (at_ rfl rfl (A0 rfl (A0 (pL_ rfl trivial) (pL_ rfl (A0 (up zw rfl) (so_ gl ?_))))))
   refine wh List.map_dropLast ?_
   show Phi sc ns (m+4) 395 [.loc 2,iN n] (H {p1 with wt:=p1.wt.dropLast} x1) fun zz hp=>Z [some (.loc 2)] hp
   exact y_look h' e1 fun x2 h2 f2 a2 l2=>hZ _ _ ⟨p2,x2,e2,h2,hf.trans f2,a2.trans ha,l2.trans hl,rfl,rfl⟩
 ·have q:=of_decide_eq_false q
  cases el:p1.wt.getLast? with
  | none=>rw[el] at e;cases e;exact k x1 h hf ha hl
  | some n=>
   refine absurd ?_ q
   cases ew:p1.wt with
   | nil=>rw[ew] at el;cases el
   | cons a r=>refine wg Q2 (wg K9 ?_);exact K4.mpr (L0 _)
end
theorem op_chr:∀k,k<16→(opN k).cps.all (·<128)=true∧(opN k).length≤100∧(∀c∈(opN k).cps.toList,AE c=false∧(m0 (C7 "()[]{},:") ⟨#[c]⟩ 0 (C7 "()[]{},:").length 1).isEmpty=true):=by decide+kernel
noncomputable def Cw (l:List Nd) (d:Nd):Option Nat:=I8 none (fun a zz ih=>I6 (V3 c9 ih) (some 0) (Cg a d)) l
theorem EL {d:Nd} (hd:d.1<16):∀{l:List Nd},(∀a∈l,a.1<16)→(l.map BI).findIdx? (fun y=>decide (y=BI d))=Cw l d∧(BI d∈l.map BI↔(Cw l d).isSome=true):=by
 intro l
 induction l with
 | nil=>exact fun zz=>⟨rfl,⟨nofun,fun h=>(nomatch h)⟩⟩
 | cons a l ih=>
  intro h
  have q:=ih fun a ha=>h a (.tail _ ha)
  refine wg Q2 (wg W6 ?_)
  show _=(I6 (V3 c9 (Cw l d)) (some 0) (Cg a d):Option Nat)∧(_↔(I6 (V3 c9 (Cw l d)) (some 0) (Cg a d):Option Nat).isSome=true)
  cases e:Cg a d with
  | true=>
   have e:=Ch.mp e
   refine wg (decide_eq_true (congrArg BI e)) (wg e ?_)
   exact ⟨rfl,fun zz=>rfl,fun zz=>.head _⟩
  | false=>
   have ne:BI a≠BI d:=fun q=>by
    rw[Ch.mpr (node_inj (h a (.head _)) hd q)] at e;cases e
   refine wg (decide_eq_false ne) (wg q.1 ?_)
   refine ⟨rfl,?_⟩
   rewrite[C4];refine wg Option.isSome_map ?_;rewrite[←q.2]
   exact ⟨fun m=>m.resolve_left fun e=>ne e.symm,.inr⟩
theorem FH {l:List Nd}:(Du l).map (·.1)=l.map BI:=by
 unfold Du
 refine p6 fun i=>?_
 refine wg G0 (wg AD (wg G0 ?_))
 cases l[i]? <;> rfl
theorem num_at {l:List Nd} {k:V}:at' (Du l) k=(l.map BI).findIdx? (fun y=>decide (y=k)):=by
 refine wh FH (wg List.findIdx?_map ?_);rfl
theorem num_look {d:Nd} (hd:d.1<16) {l:List Nd} (h:∀a∈l,a.1<16):BR (Du l) (BI d)=(Cw l d).map iN:=by
 unfold BR
 refine wg num_at (wg ((EL hd h).1) ?_)
 cases e:Cw l d with
 | none=>rfl
 | some j=>
  have:=(EL hd h).1.trans e
  refine ex1 (J4.mp this) fun hj zz=>?_
  rw[A4] at hj
  show ((Du l)[j]?).map (·.2)=_
  unfold Du
  refine wg AD (wg (B4 hj) ?_);rfl
theorem num_put {d:Nd} (hd:d.1<16) {l:List Nd} (h:∀a∈l,a.1<16) (e:Cw l d=none):Bc (Du l) (BI d) (iN l.length)=Du (l++[d]):=by
 have:BI d∉(Du l).map (·.1):=by
  refine wg FH ?_;rewrite[(EL hd h).2];refine wg e ?_;exact fun q=>nomatch q
 refine wg (Cd this) ?_
 unfold Du
 refine wg List.mapIdx_append ?_
 refine congrArg (List.mapIdx _ l++·) ?_
 exact wg List.mapIdx_cons (wg List.mapIdx_nil (wg (I0 ..) rfl))
section
variable {sc:Addr} {ns:List Int} {p:PS} {x:HS}
theorem y_is_op {k m:Nat} {hp:Hp} {K:KV} (hk:k<16) (kk:K (.bool true) hp):Phi sc ns (m+1) 79 [.str (opN k)] hp K:=by
 refine an3 (op_chr k hk) fun q1 q2 q3=>?_
 have o:=Gg hk
 refine A0 rfl (A0 ⟨o.s,(by decide+kernel:J3 (C7 "")=true)⟩ (A0 (fun zz=>?_) fun e=>?_))
 ·refine A0 q1 (x_filt (p:=fun zz=>false) ?_ trivial (fun v hv Z z=>?_) ?_)
  ·refine wg (A4 ..) ?_;exact A3 q2 (by decide)
  ·refine BD (B5.mp hv) fun c hc hh2=>?_;obtain rfl:=hh2
   refine an2 (q3 c hc) fun a1 a2=>?_
   refine A0 trivial (A0 (fun e=>?_) fun zz=>?_)
   ·have e:(decide (1>0)&&(#[c]:Array Nat).all AE)=true:=e
    rw[show ((#[c]:Array Nat).all AE)=false by simp[a1]] at e
    cases e
   ·show Z (!(m0 (C7 "()[]{},:") ⟨#[c]⟩ 0 (C7 "()[]{},:").length 1).isEmpty) _
    refine wg a2 ?_;exact z
  ·refine wg ((List.filter_eq_nil_iff (p:=fun zz=>false)).mpr fun zz zz=>D3) ?_
   exact A0 ⟨rfl,rfl⟩ ((show (decide (V.lst []=V.lst [])^^false)=true by refine wg (decide_eq_true rfl) ?_;rfl)▸kk)
 ·refine absurd (Dr e) fun e=>?_
  have:=o.p
  rw[V.str.inj e] at this
  exact N9 0 this
end
theorem xev1 {e:XE V} {lc:Lc} {hp:Hp} {K:List V→Hp→Prop} {v:V} (h:∀K:KV,K v hp→e lc hp K) (q:K [v] hp):Bj [e] lc hp K:=h _ q
section
variable {sc:Addr} {ns:List Int} {p:PS} {x:HS}
theorem Rep.nkey (h:Rep p x) {d:Nd} (hd:d.1<16):Br (Du p.nd) (BI d):=by
 refine ⟨DB hd,fun q hq=>?_,?_⟩
 ·have m:q.1∈p.nd.map BI:=FH▸H1 (f:=(·.1)) hq
  refine BD (B5.mp m) fun r zz e=>?_
  refine wh e ?_;rfl
 ·have:=congrArg T0 (FH (l:=p.nd))
  rw[A4,A4] at this
  refine wg this ?_;exact A3 h.zn.1 (by decide)
theorem y_require {k m:Nat} {hp:Hp} {s:V} {K:KV} (hk:k<16) (kk:K .none hp):Phi sc ns (m+2) 136 [s,.str (opN k)] hp K:=by
 have o:=Gg hk
 refine A0 rfl (y_is_op hk (A0 (fun e=>nomatch e) fun zz=>A0 ⟨rfl,o.p⟩ (A0 ⟨?_,qm_ok⟩ (A0 (fun e=>?_) fun zz=>kk))))
 ·refine wg (item1 o.p) ?_;exact ok1 o.s
 ·exact H0 ((q_false' o.p o.q).symm.trans e)
theorem y_take_old (h:Rep p x) {d:Nd} {i m:Nat} {K:KV} (hd:d.1<16∧d.2.length≤20) (e:Cw p.nd d=some i) (k:K (iN i) (H p x)):Phi sc ns (m+1) 129 [.loc 4,.str (opN d.1),.tup (d.2.map iN)] (H p x) K:=by
 have hl:∀a∈p.nd,a.1<16:=fun a ha=>(h.nd a ha).1
 have z:1+(d.2.map iN).length≤4096:=by refine wg (A4 ..) ?_;exact A3 (B7 hd.2 1) (by decide)
 have ei:(at' (Du p.nd) (BI d)).isSome=true:=by refine wg num_at (wg ((EL hd.1 hl).1) (wg e ?_));rfl
 refine A0 rfl (A0 z (at_ rfl rfl (A0 rfl (pD_ rfl (A0 (h.nkey hd.1) (A0 (fun zz=>?_) fun q=>?_))))))
 ·exact at_ rfl rfl (A0 rfl (pD_ rfl (A0 (h.nkey hd.1) (so_ ((num_look hd.1 hl).trans (congrArg (V3 iN) e)) k))))
 ·have q:((at' (Du p.nd) (BI d)).isSome^^false)=false:=q
  rw[ei] at q;cases q
theorem get_int {w:List V} {mm:List Int} {n i:Nat} (ew:w=mm.map .int) (zm:mm.length=n) (hi:i<n):w[i]?=some (.int (mm.getD i 0)):=by
 subst zm
 refine wg ew (wg G0 (wg P5 (wg (B4 hi) ?_)));rfl
theorem int_len {w:List V} {mm:List Int} {n:Nat} (ew:w=mm.map .int) (zm:mm.length=n) (z:n≤40):w.length≤4096:=by
 refine wg ew (wg (A4 ..) (wg zm ?_));exact A3 z (by decide)
section
variable {v1 v2 o:Option V} {nd:List Nd} {d:Nd} {mm:List Int} {N:Lc→Hp→Prop} {K:KV}
theorem ta_d (en:p.nd=nd++[d]) (z:nd.length≤40) (e8:x.w8=mm.map .int) (z8:mm.length=nd.length) (zk:(d.2.map iN).length≤20) (hk:∀k∈d.2,k<nd.length) (k:∀b,K (iN nd.length) (H p {x with w8:=x.w8++[.int b]})):x_ta_d [some (.loc 4),v1,v2,some (BI d),o] (H p x) N K:=by
 refine at_ rfl rfl (A0 rfl (A0 (pL_ rfl trivial) (A0 (A3 zk (by decide)) (Dq (f:=fun v=>.int (mm.getD (Dv v) 0)) (A3 zk (by decide)) trivial (fun v hv Z z=>?_) ?_))))
 ·refine BD (B5.mp hv) fun i hi hh2=>?_;obtain rfl:=hh2
  exact at_ rfl rfl (A0 rfl (pL_ rfl (A0 ⟨int_len e8 z8 ‹_›,C6 i⟩ (so_ (get_int e8 z8 (hk i hi)) z))))
 refine A0 (by refine wg (A4 ..) ?_;exact A3 (B1 zk) (by decide)) ⟨((d.2.map iN).map fun v=>mm.getD (Dv v) 0)++[0],?_,?_,fun b=>pL_ rfl (A0 (int_len e8 z8 z) (at_ rfl rfl (A0 rfl (DX rfl (A0 ?_ ?_)))))⟩
 ·refine wg G5 (wg G2 (wg G2 (wg G2 ?_)));rfl
 ·exact fun q=>nomatch (r0.mp q).2
 ·show (p.nd.map BI).length≤4096
  refine wg en (wg (A4 ..) (wg A7 ?_));exact A3 (B1 z) (by decide)
 ·show K (.int (((p.nd.map BI).length:Nat) - 1)) _
  refine wg en (wg (A4 ..) (wg A7 (wg (show ((nd.length+[d].length:Nat):Int) - 1=(nd.length:Nat) from l7 (nd.length:Int) 1) ?_)))
  exact k (1+b)
theorem ta_w {mm':List Int} (en:p.nd=nd++[d]) (z:nd.length≤40) (e7:x.w7=mm.map .int) (z7:mm.length=nd.length) (e8:x.w8=mm'.map .int) (z8:mm'.length=nd.length) (zk:(d.2.map iN).length≤20) (hk:∀k∈d.2,k<nd.length) (k:∀a b,K (iN nd.length) (H p {x with w7:=x.w7++[.int a],w8:=x.w8++[.int b]})):x_ta_w [some (.loc 4),v1,v2,some (BI d),o] (H p x) N K:=by
 refine at_ rfl rfl (A0 rfl (A0 (pL_ rfl trivial) (A0 (A3 zk (by decide)) (Dq (f:=fun v=>.int (mm.getD (Dv v) 0)) (A3 zk (by decide)) trivial (fun v hv Z z=>?_) ?_))))
 ·refine BD (B5.mp hv) fun i hi hh2=>?_;obtain rfl:=hh2
  exact at_ rfl rfl (A0 rfl (pL_ rfl (A0 ⟨int_len e7 z7 ‹_›,C6 i⟩ (so_ (get_int e7 z7 (hk i hi)) z))))
 exact ⟨((d.2.map iN).map fun v=>mm.getD (Dv v) 0),by refine wg G2 (wg G2 (wg G2 ?_));rfl,fun a=>pL_ rfl (A0 (int_len e7 z7 z) (ta_d (x:={x with w7:=x.w7++[.int (1+a)]}) en z e8 z8 zk hk fun b=>k _ b))⟩
theorem ta_n (h:Rep p x) (hd:d.1<16∧d.2.length≤20) (e:Cw p.nd d=none) (hk:∀k∈d.2,k<p.nd.length) (k:∀a b,K (iN p.nd.length) (H {p with nd:=p.nd++[d]} {x with w7:=x.w7++[.int a],w8:=x.w8++[.int b]})):x_ta_n [some (.loc 4),v1,v2,some (BI d),o] (H p x) N K:=by
 have zn:=h.zn.1
 have zl:(p.nd.map BI).length≤4096:=by refine wg (A4 ..) ?_;exact A3 zn (by decide)
 have en:Bc (Du p.nd) (BI d) (.int ((p.nd.map BI).length:Nat))=Du (p.nd++[d]):=by refine wg (A4 ..) ?_;exact num_put hd.1 (fun a ha=>(h.nd a ha).1) e
 have ed:p.nd.map BI++[BI d]=(p.nd++[d]).map BI:=by refine wg G5 ?_;rfl
 refine at_ rfl rfl (A0 rfl (DX rfl (A0 zl (at_ rfl rfl (A0 rfl (pD_ rfl (A0 (h.nkey hd.1) ?_)))))))
 refine wg en ?_
 refine at_ rfl rfl (A0 rfl (A0 (pL_ rfl trivial) (pL_ rfl (A0 zl ?_))))
 refine wg ed ?_
 show x_ta_w _ (H {p with nd:=p.nd++[d]} x) _ _
 exact h.w7.elim fun m7 q7=>h.w8.elim fun m8 q8=>ta_w rfl zn q7.1 q7.2 q8.1 q8.2 (by refine wg (A4 ..) ?_;exact hd.2) hk k
theorem ta_l (h:Rep p x) (hd:d.1<16∧d.2.length≤20) (e:Cw p.nd d=none) (hk:∀k∈d.2,k<p.nd.length) (k:∀a b,K (iN p.nd.length) (H {p with nd:=p.nd++[d]} {x with w7:=x.w7++[.int a],w8:=x.w8++[.int b]})):x_ta_l [some (.loc 4),v1,v2,some (BI d),o] (H p x) N K:=by
 have zl:(p.nd.map BI).length≤4096:=by refine wg (A4 ..) ?_;exact A3 h.zn.1 (by decide)
 refine A0 (by refine wg (A4 ..) ?_;exact A3 hd.2 (by decide)) ?_
 refine Fh (g:=tt) (fun rs Q=>∀o,(∀k∈rs,k<p.nd.length)→Q [some (.loc 4),v1,v2,some (BI d),o] (H p x)) (fun i rs Z hZ o hr=>A0 trivial (A0 (fun zz=>at_ rfl rfl (A0 rfl (DX rfl (A0 zl (A0 (fun e=>?_) fun zz=>hZ _ fun k hk=>hr k (.tail _ hk)))))) fun e=>absurd (C6 i) (of_decide_eq_false e))) (fun o zz=>A0 trivial (ta_n h hd e hk k)) d.2 o hk
 have e:(!(decide ((i:Int)<((p.nd.map BI).length:Nat))))=true:=e
 rw[A4,decide_eq_true (K4.mpr (hr i (.head _)))] at e;cases e
end
theorem y_take_new (h:Rep p x) {d:Nd} {m:Nat} {K:KV} (hd:d.1<16∧d.2.length≤20) (e:Cw p.nd d=none) (hk:∀k∈d.2,k<p.nd.length) (k:∀a b,K (iN p.nd.length) (H {p with nd:=p.nd++[d]} {x with w7:=x.w7++[.int a],w8:=x.w8++[.int b]})):Phi sc ns (m+3) 129 [.loc 4,.str (opN d.1),.tup (d.2.map iN)] (H p x) K:=by
 have z:1+(d.2.map iN).length≤4096:=by refine wg (A4 ..) ?_;exact A3 (B7 hd.2 1) (by decide)
 have ei:(at' (Du p.nd) (BI d)).isSome=false:=by refine wg num_at (wg ((EL hd.1 fun a ha=>(h.nd a ha).1).1) (wg e ?_));rfl
 refine A0 rfl (A0 z (at_ rfl rfl (A0 rfl (pD_ rfl (A0 (h.nkey hd.1) (A0 (fun q=>?_) fun zz=>?_))))))
 ·have q:((at' (Du p.nd) (BI d)).isSome^^false)=true:=q
  rw[ei] at q;cases q
 ·exact A0 (at_ rfl rfl trivial) (xev1 (v:= .str (opN d.1)) (fun K q=>q) (y_require hd.1 (ta_l h hd e hk k)))
end
noncomputable def FI (c:Nat) (l:List Nat):Bool:=I8 false (fun k zz ih=>I6 ih true (H7 c k)) l
noncomputable def EZ (n:Nat) (ks:List Nat) (c:Nat) (us:List (Option (List Nat))):List (Option (List Nat)):=I8 (fun zz=>[]) (fun o zz ih c=>I6 o (o.map (·++[n])) (FI c ks)::ih (c+1)) us c
noncomputable def isU (us:List (Option (List Nat))) (c:Nat):Bool:=Y0 false (fun o=>Y0 false (fun l=>K0 l.length 900) o) (nth us c)
noncomputable def kidB (n:Nat) (l:List Nat):Bool:=l.all fun k=>Nat.blt k n
noncomputable def FJ (p:PS) (d:Nd):Option (PS×Nat):=Y0 (gd (an (Nat.blt d.1 16) (an (K0 d.2.length 20) (an (kidB p.nd.length d.2) (an (Nat.blt p.nd.length 40) (H7 p.ed 0))))) (bo (IZ (Bp (p.ab++[p.nd.length]) 20) d.2) fun ks=>
  gd (ks.all (isU p.us)) (bo (Fw {p with nd:=p.nd++[d],ab:=p.ab++[p.nd.length],lo:=p.lo++[[p.nd.length]],us:=EZ p.nd.length ks 0 (p.us++[some []])} p.nd.length) fun q=>some (q,p.nd.length)))) (fun i=>some (p,i)) (Cw p.nd d)
theorem Ci {c:Nat}:∀{l:List Nat},FI c l=true↔c∈l:=by
 intro l
 induction l with
 | nil=>exact ⟨fun h=>(nomatch h),fun h=>(nomatch h)⟩
 | cons k r ih=>
  show (I6 (FI c r) true (H7 c k):Bool)=true↔_
  rewrite[C4];rewrite[←ih];refine wh Nat.beq_eq ?_
  cases H7 c k with
  | true=>exact ⟨fun zz=>.inl rfl,fun zz=>rfl⟩
  | false=>exact ⟨.inr,fun h=>h.elim (fun h=>(nomatch h)) id⟩
theorem addU_len {n:Nat} {ks:List Nat}:∀{us:List (Option (List Nat))} {c},(EZ n ks c us).length=us.length:=by
 intro us
 induction us with
 | nil=>exact rfl
 | cons o r ih=>exact congrArg (·+1) ih
theorem DR {n:Nat} {ks:List Nat}:∀{us:List (Option (List Nat))} {c i},(EZ n ks c us)[i]?=(us[i]?).map fun o=>(I6 o (o.map (·++[n])) (FI (c+i) ks):Option (List Nat)):=by
 intro us
 induction us with
 | nil=>intro c i;cases i <;> rfl
 | cons o r ih=>
  intro c i
  cases i with
  | zero=>rfl
  | succ i=>
   show (EZ n ks (c+1) r)[i]?=_
   refine wg ih (wg (N5 ..) ?_);rfl
theorem addU_ext {n:Nat} {ks ks':List Nat} (h:∀c,c∈ks↔c∈ks'):∀{us:List (Option (List Nat))} {c},EZ n ks c us=EZ n ks' c us:=by
 intro us c
 refine p6 fun i=>?_
 refine wg DR (wg DR ?_)
 have:FI (c+i) ks=FI (c+i) ks':=Bool.eq_iff_iff.mpr (Ci.trans ((h _).trans Ci.symm))
 exact wg this rfl
theorem addU_nil {n:Nat}:∀{us:List (Option (List Nat))} {c},EZ n [] c us=us:=by
 intro us
 induction us with
 | nil=>exact rfl
 | cons o r ih=>exact congrArg (o::·) ih
theorem f1t {hp t:Hp} {a b:PO}:Hp.f (hp++a::b::t) (hp.length+1)=some b:=by refine wg (CM ..) (wg (R6 (C0 _ 1)) (wg (V0 ..) ?_));rfl
section
variable {sc:Addr} {ns:List Int} {p:PS} {x:HS}
noncomputable def growP (p:PS) (d:Nd):PS:={p with nd:=p.nd++[d],ab:=p.ab++[p.nd.length],lo:=p.lo++[[p.nd.length]],us:=p.us++[some []]}
noncomputable def HZ (x:HS) (n:Nat) (a b:Int):HS:={x with w7:=x.w7++[.int a],w8:=x.w8++[.int b],us:=Bc x.us (iN n) (.loc (x.v.length+21)),as:=x.as++[x.v.length],v:=x.v++[.list [iN n],.list []]}
theorem FL {α:Type} {l:List α} {i:Nat} {v w:α} {C:Prop} (q:(l++[v])[i]?=some w) (old:l[i]?=some w→i<l.length→C) (new:i=l.length→w=v→C):C:=by
 rw[List.getElem?_append] at q
 split at q
 ·exact old q ‹_›
 ·rename_i h
  cases e:i - l.length with
  | zero=>rw[e] at q;exact new (L9 (s7 e) (Nat.le_of_not_lt h)) (G9 q).symm
  | succ j=>rw[e] at q;cases q
theorem Gm {α:Type} {l:List α} {v:α} {n:Nat} (h:l.length=n):(l++[v]).length=n+1:=A7.trans (congrArg c9 h)
theorem Rep.grow (h:Rep p x) {d:Nd} {a b:Int} (hd:d.1<16∧d.2.length≤20) (hz:p.nd.length<40):Rep (growP p d) (HZ x p.nd.length a b):=by
 have zn:=h.zn
 have nd1:(p.nd++[d]).length=p.nd.length+1:=Gm rfl
 have ne:∀{c:Nat},c<p.us.length→iN c≠iN p.nd.length:=fun q e=>E4 (zn.2.2.2.2▸q) (L8 (V.int.inj e))
 have as_old:∀{c a},x.as[c]?=some a→(x.as++[x.v.length])[c]?=some a:=fun {c a} q=>(J7 (B6.mp q).1).trans q
 have new1:Us (HZ x p.nd.length a b) p.nd.length []:=⟨x.v.length,by refine wh zn.2.2.2.1 ?_;exact V8,Ct h.un,f1t⟩
 have old1:∀{c l},c<p.us.length→Us x c l→Us (HZ x p.nd.length a b) c l:=fun q x=>E9 (fun zz z=>⟨as_old z.1,EJ h.un (ne q) z.2.1,BT z.2.2⟩) x
 refine ⟨h.w7.elim fun m q=>⟨m++[a],(congrArg (·++[V.int a]) q.1).trans (G5 (l₁:=m) (l₂:=[a])).symm,(Gm q.2).trans nd1.symm⟩,h.w8.elim fun m q=>⟨m++[b],(congrArg (·++[V.int b]) q.1).trans (G5 (l₁:=m) (l₂:=[b])).symm,(Gm q.2).trans nd1.symm⟩,h.zm,⟨A3 (B3 nd1) hz,(Gm zn.2.1).trans nd1.symm,(Gm zn.2.2.1).trans nd1.symm,(Gm zn.2.2.2.1).trans nd1.symm,(Gm zn.2.2.2.2).trans nd1.symm⟩,h.zk,fun {i a l} ha hl=>?_,fun a ha=>?_,?_,Da h.un,⟨fun p hp=>(putD_mem hp).elim (fun q=>by refine wg q ?_;rfl) (h.uk.1 p),?_⟩,fun {c l} hc=>?_,fun e {c l} hc=>?_,fun q hq=>(C5.mp hq).elim (h.nd q) fun m=>(A8.mp m)▸hd,h.kn⟩
 ·refine FL ha (fun ha zi=>FL hl (fun hl zz=>⟨BT (h.la ha hl).1,(h.la ha hl).2⟩) fun e zz=>absurd (e.trans (zn.2.2.1.trans zn.2.2.2.1.symm)) (E4 zi)) fun e1 e2=>FL hl (fun zz zi=>absurd (e1.trans (zn.2.2.2.1.trans zn.2.2.1.symm)) (E4 zi)) fun zz e4=>?_
  refine wg e2 (wg e4 ?_)
  exact ⟨Bn,D5 1 58⟩
 ·show a+2≤(x.v++[_,_]).length
  refine wg A7 ?_
  exact (C5.mp ha).elim (fun m=>A3 (h.a2 a m) (C0 _ _)) fun m=>by refine wg (A8.mp m) ?_;exact B2 _
 ·exact i0.mpr ⟨h.sp,a9 _ _,fun a ha b hb=>by refine wg (A8.mp hb) ?_;exact h.a2 a ha⟩
 ·show (Bc _ _ _).length≤(p.nd++[d]).length
  refine wg nd1 ?_
  rcases putD_cases (l:=x.us) (k:=iN p.nd.length) with ⟨j,_,_,_,q⟩ | ⟨_,q⟩
  ·refine wg (q ..) (wg O4 ?_);exact E7 h.uk.2
  ·refine wg (q ..) (wg A7 ?_);exact B1 h.uk.2
 ·refine FL hc (fun hc zc=>⟨(h.u hc).1,(h.u hc).2.imp (fun q=>EJ h.un (ne zc) q) (old1 zc)⟩) fun e1 e2=>?_
  cases e2
  exact ⟨E2 _,.inr (by refine wg e1 (wg zn.2.2.2.2 ?_);exact new1)⟩
 ·refine FL hc (fun hc zc=>old1 zc (h.u0 e hc)) fun e1 e2=>?_
  cases e2
  refine wg e1 (wg zn.2.2.2.2 ?_);exact new1
end
section
variable {sc:Addr} {ns:List Int} {p:PS} {x:HS}
theorem y_make {m:Nat} {K:KV} (za:p.ab.length≤4000) (zx:x.as.length=p.ab.length) (k:K (iN p.ab.length) (H {p with ab:=p.ab++[p.ab.length]} {x with as:=x.as++[x.v.length],v:=x.v++[.list [iN p.ab.length]]})):Phi sc ns (m+1) 289 [.loc 10] (H p x) K:=by
 have zl:(p.ab.map iN).length≤4000:=by refine wg (A4 ..) ?_;exact za
 have zs:(x.as.map fun a=>V.loc (a+20)).length≤4000:=by refine wg (A4 ..) ?_;(refine wg zx ?_;exact za)
 refine A0 rfl (at_ rfl rfl (A0 rfl (A0 (pL_ rfl trivial) (at_ rfl rfl (A0 rfl (DX rfl (A0 (A3 zl (by decide)) (pL_ rfl (A0 (A3 zl (by decide)) ?_)))))))))
 have e1:p.ab.map iN++[.int ((p.ab.map iN).length:Nat)]=(p.ab++[p.ab.length]).map iN:=by refine wg (A4 ..) (wg G5 ?_);rfl
 refine wg e1 ?_
 show xseq _ _ [some (.loc 10)] (H {p with ab:=p.ab++[p.ab.length]} x) _ _
 refine at_ rfl rfl (A0 rfl (A0 (pL_ rfl trivial) (at_ rfl rfl (A0 rfl (DX rfl (A0 (A3 zs (by decide)) (pL_ rfl (A0 (A3 zs (by decide)) ?_))))))))
 have e2:(x.as.map fun a=>V.loc (a+20))++[.loc (x.v.length+20)]=(x.as++[x.v.length]).map fun a=>V.loc (a+20):=by refine wg G5 ?_;rfl
 have e3:(V.int ((x.as.map fun a=>V.loc (a+20)).length:Nat))=iN p.ab.length:=by exact wg (A4 ..) (wg zx rfl)
 refine wg e3 ?_
 show xseq _ _ [some (.loc 10)] (Hp.put (H {p with ab:=p.ab++[p.ab.length]} {x with v:=x.v++[.list [iN p.ab.length]]}) 12 (.list ((x.as.map fun a=>V.loc (a+20))++[.loc (x.v.length+20)]))) _ _
 refine wg e2 ?_
 show xseq _ _ [some (.loc 10)] (H {p with ab:=p.ab++[p.ab.length]} {x with as:=x.as++[x.v.length],v:=x.v++[.list [iN p.ab.length]]}) _ _
 refine at_ rfl rfl (A0 rfl (DX rfl (A0 ?_ ?_)))
 ·show ((p.ab++[p.ab.length]).map iN).length≤4096
  refine wg (A4 ..) (wg A7 ?_);exact A3 (B1 za) (by decide)
 ·have el:((((p.ab++[p.ab.length]).map iN).length:Nat):Int) - 1=(p.ab.length:Nat):=by refine wg (A4 ..) (wg A7 ?_);exact l7 (p.ab.length:Int) 1
  show K (.int ((((p.ab++[p.ab.length]).map iN).length:Nat) - 1)) _
  refine wg el ?_;exact k
theorem y_usize {m:Nat} {K:KV} (za:p.ab.length≤4000) (k:K (iN p.ab.length) (H p x)):Phi sc ns (m+1) 296 [.loc 10] (H p x) K:=by
 have zl:(p.ab.map iN).length≤4096:=by refine wg (A4 ..) ?_;exact up za rfl
 refine A0 rfl (at_ rfl rfl (A0 rfl (DX rfl (A0 zl ?_))))
 show K (.int ((p.ab.map iN).length:Nat)) _
 refine wg (A4 ..) ?_;exact k
theorem Rep.user (h:Rep p x) {us:List (Option (List Nat))} {dn:List Nat} {n c a:Nat} {l:List Nat} (hp:p.us=EZ n dn 0 us) (e0:p.ed=0) (hc:us[c]?=some (some l)) (hl:l.length≤900) (nc:c∉dn) (ha:x.as[c]?=some a):Rep {p with us:=EZ n (dn++[c]) 0 us} {x with v:=x.v.put (a+1) (.list ((l++[n]).map iN))}:=by
 have at0:p.us[c]?=some (some l):=by
  refine wg hp (wg DR (wg hc (wg (I0 ..) ?_)))
  have:FI c dn=false:=by
   cases q:FI c dn with
   | false=>rfl
   | true=>exact absurd (Ci.mp q) nc
  refine wg this ?_;rfl
 have new:∀{i l'},(EZ n (dn++[c]) 0 us)[i]?=some (some l')→l'.length≤1000∧∃a',x.as[i]?=some a'∧BR x.us (iN i)=some (.loc (a'+21))∧(x.v.put (a+1) (.list ((l++[n]).map iN))).f (a'+1)=some (.list (l'.map iN)):=fun {i l'} hi=>by
  by_cases q:i=c
  ·subst q
   rw[DR,hc,I0,Ci.mpr (B8 _ (.head _))] at hi
   cases hi
   refine Bo (h.u0 e0 at0) fun a' q1 q2 q3=>?_
   cases ha.symm.trans q1
   exact ⟨by refine wg A7 ?_;exact A3 (B1 hl) (by decide),a,q1,q2,CG (DF q3)⟩
  ·have:p.us[i]?=some (some l'):=by
    refine wg hp (wg DR ?_)
    rw[DR] at hi
    have:FI (0+i) dn=FI (0+i) (dn++[c]):=Bool.eq_iff_iff.mpr (Ci.trans (Iff.trans ⟨D0 _,fun m=>(C5.mp m).resolve_right fun m=>q ((I0 i).symm.trans (A8.mp m))⟩ Ci.symm))
    refine wg this ?_;exact hi
   refine Bo (h.u0 e0 this) fun a' q1 q2 q3=>?_
   refine ⟨(h.u this).1,a',q1,q2,(Bb fun q4=>?_).trans q3⟩
   exact (sp_ne h.sp ha q1 (N6 q)).elim (fun h=>absurd (Q3 q4) (E4 (A9 (N0 y7) h))) fun h=>absurd (Q3 q4) (J6 (A9 (N0 y7) h))
 refine ⟨h.w7,h.w8,h.zm,?_,h.zk,fun {i a' l'} hi hl'=>?_,fun a' ha'=>A3 (h.a2 a' ha') (B3 DT.symm),h.sp,h.un,h.uk,fun hi=>⟨(new hi).1,.inr (new hi).2⟩,fun _ {_ _} hi=>(new hi).2,h.nd,h.kn⟩
 ·have z:=h.zn
  exact ⟨z.1,z.2.1,z.2.2.1,z.2.2.2.1,by show (EZ _ _ _ _).length=_;refine wg addU_len ?_;rw[hp,addU_len] at z;exact z.2.2.2.2⟩
 ·have w:=h.la hi hl'
  refine ⟨(Bb fun q4=>?_).trans w.1,w.2⟩
  by_cases q:c=i
  ·subst q;cases ha.symm.trans hi;exact Nat.succ_ne_self _ q4
  ·exact (sp_ne h.sp ha hi q).elim (fun h=>absurd (A3 h (B3 q4.symm)) (P6 _)) fun h=>absurd (A3 h (A3 (O9 a) (B3 q4))) (b7.mpr (N0 y7))
end
theorem idx_mem {d:Nd}:∀{l:List Nd} {i},Cw l d=some i→d∈l∧i<l.length:=by
 intro l
 induction l with
 | nil=>exact fun h=>(nomatch h)
 | cons a l ih=>
  intro i h
  have h:(I6 (V3 c9 (Cw l d)) (some 0) (Cg a d):Option Nat)=some i:=h
  cases e:Cg a d with
  | true=>rw[e] at h;cases h;exact ⟨Ch.mp e▸.head _,L0 _⟩
  | false=>
   rw[e] at h
   refine BD (I9.mp h) fun j e2 hh2=>?_;obtain rfl:=hh2
   have q:=ih e2
   exact ⟨.tail _ q.1,T7 q.2⟩
theorem mem_iN {c:Nat} {l:List Nat}:iN c∈l.map iN↔c∈l:=⟨fun m=>by
 refine BD (B5.mp m) fun i hi e=>?_
 exact L8 (V.int.inj e)▸hi,fun m=>H1 m⟩
section
variable {sc:Addr} {ns:List Int} {p:PS} {x:HS}
theorem add_ {d:Nd} {p':PS} {n:Nat} {C:Prop} (e:FJ p d=some (p',n)) (old:Cw p.nd d=some n→p'=p→C)
  (new:∀ks,Cw p.nd d=none→d.1<16→d.2.length≤20→(∀k∈d.2,k<p.nd.length)→p.nd.length<40→p.ed=0→IZ (Bp (growP p d).ab 20) d.2=some ks→(∀c∈ks,isU p.us c=true)→Fw {growP p d with us:=EZ p.nd.length ks 0 (growP p d).us} p.nd.length=some p'→n=p.nd.length→C):C:=by
 unfold FJ at e
 cases ei:Cw p.nd d with
 | some i=>rw[ei] at e;cases e;exact old ei rfl
 | none=>
  rw[ei] at e
  have q:=CT e
  have w1:=an_ q.1
  have w2:=an_ w1.2
  have w3:=an_ w2.2
  have w4:=an_ w3.2
  refine bo_ q.2 fun ks e1 e=>?_
  have q2:=CT e
  refine bo_ q2.2 fun r e2 e=>?_
  cases e
  exact new ks ei (A6 w1.1) (A6 w2.1) (fun k hk=>A6 (E0.mp w3.1 k hk)) (A6 w4.1) (F6 w4.2) e1 (E0.mp q2.1) e2 rfl
theorem isU_ {us:List (Option (List Nat))} {c:Nat} (h:isU us c=true):∃l,us[c]?=some (some l)∧l.length≤900:=by
 unfold isU at h
 rw[Dl] at h
 cases hl:us[c]? with
 | none=>rw[hl] at h;cases h
 | some o=>
  rw[hl] at h
  cases o with
  | none=>cases h
  | some l=>exact ⟨l,rfl,A6 h⟩
theorem addU_at {n c:Nat} {dn l:List Nat} {us:List (Option (List Nat))} (hl:us[c]?=some (some l)) (nc:c∉dn):(EZ n dn 0 us)[c]?=some (some l):=by
 refine wg DR (wg hl (wg (I0 ..) ?_))
 cases q:FI c dn with
 | false=>rfl
 | true=>exact absurd (Ci.mp q) nc
theorem ha_tail (G:Rep p x) {n m:Nat} {d2 ks:List Nat} {p':PS} {v1:Option V} {K:KV} (e0:p.ed=0) (e1:IZ (Bp p.ab 20) d2=some ks) (w2:d2.length≤20) (w6:∀c∈ks,∃l,p.us[c]?=some (some l)∧l.length≤900) (e2:Fw {p with us:=EZ n ks 0 p.us} n=some p') (k:∀x',Rep p' x'→Fr x x'→x'.ln=x.ln→K (iN n) (H p' x')):
  x_ha_t (Phi sc ns (m+4)) [some (.loc 2),v1,some (.tup (d2.map iN)),some (iN n),none] (H p x) (fun zz hp=>K .none hp) K:=by
 refine an2 (Cu e1 0) fun e3 e4=>?_
 have zk:(d2.map iN).length≤20:=by refine wg (A4 ..) ?_;exact w2
 have zks:(ks.map Int.ofNat).length≤20:=by refine wg (A4 ..) (wg e3 (wg (A4 ..) ?_));exact w2
 have ek:(d2.map iN).map (fun v=>iN ((Bp p.ab 20 (Dv v)).getD 0))=ks.map iN:=by refine wg e3 (wg G2 (wg G2 ?_));rfl
 refine Dq (f:=fun v=>iN ((Bp p.ab 20 (Dv v)).getD 0)) (A3 zk (by decide)) trivial (fun v hv Z z=>?_) ?_
 ·refine BD (B5.mp hv) fun i hi hh2=>?_;obtain rfl:=hh2
  refine ex1 (e4 i hi) fun c hc=>?_
  have z:Z (iN ((Bp p.ab 20 i).getD 0)) (H p x):=z
  rw[hc] at z
  exact A0 (at_ rfl rfl trivial) (EI G hc z)
 refine wg ek ?_
 refine A0 (.inl ⟨ks.map Int.ofNat,by refine wg G2 ?_;rfl,C2 zks (by decide)⟩) fun l2 nd2 m2 zz=>?_
 have e5:l2=(l2.map Dv).map iN:=by
  refine wg G2 ?_
  conv=>lhs;rw[←g8 l2]
  refine H4 fun v hv=>?_
  refine BD (B5.mp ((m2 v).mp hv)) fun i zz hh2=>?_;obtain rfl:=hh2
  rfl
 generalize l2.map Dv=cs at e5
 subst e5
 have csn:cs.Nodup:=List.Pairwise.of_map iN (fun a b q e=>q (e▸rfl)) nd2
 have csm:∀c,c∈cs↔c∈ks:=fun c=>mem_iN.symm.trans ((m2 (iN c)).trans mem_iN)
 clear m2 nd2 e3 e4 ek zks
 refine Fh (g:=tt) (fun rs Q=>∀dn x1 o,cs=dn++rs→Rep {p with us:=EZ n dn 0 p.us} x1→Fr x x1→x1.ln=x.ln→Q [some (.loc 2),v1,some (.tup (d2.map iN)),some (iN n),o] (H {p with us:=EZ n dn 0 p.us} x1)) (fun c rs Z hZ dn x1 o ec R F ln1=>A0 trivial ?_) (fun dn x1 o ec R F ln1=>A0 trivial ?_) cs [] x none rfl (by refine wg addU_nil ?_;exact G) .refl rfl |> fun h=>by rw[addU_nil] at h;exact h
 ·have hc:c∈cs:=ec▸B8 _ (.head _)
  have nc:c∉dn:=fun m=>by
   rw[ec] at csn
   exact (Y6.mp csn).2.2 c m c (.head _) rfl
  refine BD (w6 c ((csm c).mp hc)) fun l hl zl=>?_
  refine Bo (R.u0 e0 (addU_at hl nc)) fun a' q1 q2 q3=>?_
  refine at_ rfl rfl (A0 rfl (pD_ rfl (A0 R.ukey (so_ q2 (A0 (pL_ q3 trivial) (pL_ q3 (A0 (by refine wg (A4 ..) ?_;exact A3 zl (by decide)) ?_)))))))
  refine wg (show l.map iN++[iN n]=(l++[n]).map iN from (G5 (l₁:=l) (l₂:=[n])).symm) ?_
  exact hZ (dn++[c]) {x1 with v:=x1.v.put (a'+1) (.list ((l++[n]).map iN))} _ (ec.trans (T8 ..)) (R.user rfl e0 hl zl nc q1) (F.trans ⟨rfl,rfl,⟨[],(D8 _).symm,nofun⟩,B3 DT.symm,fun i o hi q=>(Bb fun q4=>(hi a' (B9 q1)).2 q4.symm).trans q⟩) ln1
 ·rw[D8] at ec
  subst ec
  rw[addU_ext csm] at R ⊢
  refine A0 (at_ rfl rfl trivial) (xev1 (v:=iN n) (fun K q=>q) ?_)
  exact y_look R e2 fun x' h1 h2 h3 h4=>k x' h1 (F.trans h2) (h4.trans ln1)
theorem y_hadd (h:Rep p x) {d:Nd} {n m:Nat} {p':PS} {K:KV} (e:FJ p d=some (p',n)) (k:∀x',Rep p' x'→Fr x x'→x'.ln=x.ln→K (iN n) (H p' x')):Phi sc ns (m+5) 381 [.loc 2,.str (opN d.1),.tup (d.2.map iN)] (H p x) K:=by
 have zn:=h.zn
 have za:p.ab.length≤4000:=zn.2.1▸A3 zn.1 (by decide)
 refine add_ e (fun ei ep=>?_) fun ks ei w1 w2 w3 w4 w5 e1 w6 e2 en=>?_
 ·subst ep
  have q:=idx_mem ei
  refine A0 rfl (at_ rfl rfl (A0 rfl (A0 (at_ rfl rfl trivial) ?_)))
  refine y_take_old h (h.nd d q.1) ei (at_ rfl rfl (A0 rfl (A0 (at_ rfl rfl trivial) (y_usize za (A0 (fun zz=>k x h .refl rfl) fun q2=>absurd (K4.mpr (zn.2.1.symm▸q.2)) (of_decide_eq_false q2))))))
 ·subst en
  refine A0 rfl (at_ rfl rfl (A0 rfl (A0 (at_ rfl rfl trivial) ?_)))
  refine y_take_new h ⟨w1,w2⟩ ei w3 fun a b=>?_
  refine at_ rfl rfl (A0 rfl (A0 (at_ rfl rfl trivial) (y_usize za (A0 (fun q2=>absurd (K4.mp (of_decide_eq_true q2)) (G4.mpr (B3 zn.2.1))) fun zz=>?_))))
  refine at_ rfl rfl (A0 rfl (A0 (at_ rfl rfl trivial) (y_make za (zn.2.2.2.1.trans zn.2.1.symm) ?_)))
  refine at_ rfl rfl (A0 rfl (pD_ rfl (A0 h.ukey ?_)))
  have ev:(x.v++[PO.list [iN p.nd.length]])++[.list []]=x.v++[.list [iN p.nd.length],.list []]:=Bq
  have el:(x.v++[PO.list [iN p.nd.length]]).length+20=x.v.length+21:=congrArg (·+20) A7
  have en:p.ab.length=p.nd.length:=zn.2.1
  refine wg en ?_
  show x_ha_t (Phi sc ns (m+4)) [some (.loc 2),some (.str (opN d.1)),some (.tup (d.2.map iN)),some (iN p.nd.length),none] (H (growP p d) {HZ x p.nd.length a b with us:=Bc x.us (iN p.nd.length) (.loc ((x.v++[PO.list [iN p.nd.length]]).length+20)),v:=(x.v++[PO.list [iN p.nd.length]])++[.list []]}) _ _
  refine wg el (wg ev ?_)
  show x_ha_t (Phi sc ns (m+4)) _ (H (growP p d) (HZ x p.nd.length a b)) _ _
  have F2:Fr x (HZ x p.nd.length a b):=⟨rfl,rfl,⟨[x.v.length],rfl,fun a ha=>B3 (A8.mp ha).symm⟩,A3 (C0 _ _) (B3 A7.symm),fun i o zz q=>BT q⟩
  exact ha_tail (h.grow ⟨w1,w2⟩ w4) w5 e1 w2 (fun c hc=>(isU_ (w6 c hc)).imp fun l q=>⟨(J7 (B6.mp q.1).1).trans q.1,q.2⟩) e2 fun x' r f l=>k x' r (F2.trans f) l
end
theorem urn_ne:(V.str "row")≠V.str "at":=fun e=>absurd (V.str.inj e) (by decide+kernel)
theorem urn_ok:J3 (C7 "row")=true∧J3 (C7 "at")=true:=by decide+kernel
section
variable {r a b:V}
theorem urn_nd:(([(.str "row",r),(.str "at",a)]:List (V×V)).map (·.1)).Nodup:=O5.mpr ⟨fun m=>urn_ne (A8.mp m),O5.mpr ⟨nofun,N4⟩⟩
theorem urn_at:BR [(.str "row",r),(.str "at",a)] (.str "at")=some a:=Cc urn_nd (.tail _ (.head _))
theorem urn_row:BR [(.str "row",r),(.str "at",a)] (.str "row")=some r:=Cc urn_nd (.head _)
theorem urn_put:Bc [(.str "row",r),(.str "at",a)] (.str "at") b=[(.str "row",r),(.str "at",b)]:=by
 unfold Bc
 have:at' [(.str "row",r),(.str "at",a)] (.str "at")=some 1:=GD (p:=a) urn_nd rfl
 refine wg this ?_;rfl
theorem urn_kat:Br [(.str "row",r),(.str "at",a)] (.str "at"):=⟨urn_ok.2,fun p hp=>(C4.mp hp).elim (fun e=>e▸rfl) fun hp=>(A8.mp hp)▸rfl,A6 rfl⟩
theorem urn_krow:Br [(.str "row",r),(.str "at",a)] (.str "row"):=⟨urn_ok.1,urn_kat.d,urn_kat.z⟩
end
structure Urn (x:HS):Prop where
 p:∃n:Nat,x.pos=n∧n≤100
 r:∀v∈x.row,∃i,v= .int i
 z:x.row.length≤4096
section
variable {sc:Addr} {ns:List Int} {p:PS} {x:HS}
theorem y_next (u:Urn x) {many m:Nat} {mi:Int} {K:KV} (em:mi=many) (hm:0<many) (k:∀r:Nat,r<many→K (iN r) (H p {x with pos:=x.pos+1})):Phi sc ns (m+1) 489 [.loc 0,.int mi] (H p x) K:=by
 subst em
 refine BD u.p fun n hn zn=>?_
 have fin:∀i:Int,K (.int (i.fmod many)) (H p {x with pos:=x.pos+1}):=fun i=>by
  have h1:=Int.fmod_nonneg_of_pos i (b:=many) (K4.mpr hm)
  have h2:=Int.fmod_lt_of_pos i (b:=many) (K4.mpr hm)
  refine ex1 (Int.eq_ofNat_of_zero_le h1) fun r e=>?_
  rw[e] at h2 ⊢
  exact k r (K4.mp h2)
 have nz:(many:Int)≠0:=fun e=>absurd (L8 e) (J6 hm)
 refine A0 rfl (pD_ rfl (A0 urn_kat (so_ urn_at (pD_ rfl (A0 urn_kat ?_)))))
 refine wg urn_put ?_
 show xseq _ BF [some (.loc 0),some (.int many),some (.int x.pos)] (H p {x with pos:=x.pos+1}) _ _
 refine pD_ rfl (A0 urn_krow (so_ urn_row (A0 u.z (A0 (fun e=>?_) fun zz=>?_))))
 ·have e:=of_decide_eq_true e
  rw[hn] at e
  have e:=K4.mp e
  refine ex1 (u.r _ (N2 e)) fun i hi=>?_
  have g:x.row[x.pos.toNat]?=some (.int i):=by exact wg hn (wg (N3 ..) (wg (B4 e) (wg hi rfl)))
  exact pD_ rfl (A0 urn_krow (so_ urn_row (A0 ⟨u.z,by refine wg hn ?_;exact C6 n⟩ (so_ g (A0 nz (fin _))))))
 ·refine A0 (by decide) (A0 (by refine wg hn ?_;exact (C2 (i8 7 zn) (by decide):7*n<1000000)) (A0 (by decide) (A0 ⟨by decide,by decide⟩ (A0 nz (fin _)))))
theorem Urn.next (u:Urn x) (h:x.pos≤99):Urn {x with pos:=x.pos+1}:=by
 refine BD u.p fun n hn zn=>?_
 exact ⟨⟨n+1,by show x.pos+1=_;refine wg hn ?_;rfl,B1 (T9.mp (hn▸h))⟩,u.r,u.z⟩
theorem Rep.pos (h:Rep p x) {q:Int}:Rep p {x with pos:=q}:=⟨h.w7,h.w8,h.zm,h.zn,h.zk,h.la,h.a2,h.sp,h.un,h.uk,h.u,h.u0,h.nd,h.kn⟩
theorem Rep.ln (h:Rep p x) {l:List V}:Rep p {x with ln:=l}:=⟨h.w7,h.w8,h.zm,h.zn,h.zk,h.la,h.a2,h.sp,h.un,h.uk,h.u,h.u0,h.nd,h.kn⟩
theorem y_size (h:Rep p x) {m:Nat} {K:KV} (k:K (iN p.nd.length) (H p x)):Phi sc ns (m+2) 371 [.loc 2] (H p x) K:=by
 have zl:=h.zd
 refine A0 rfl (at_ rfl rfl (A0 rfl (A0 (at_ rfl rfl trivial) (A0 rfl (at_ rfl rfl (A0 rfl (DX rfl (A0 zl ?_))))))))
 show K (.int ((p.nd.map BI).length:Nat)) _
 refine wg (A4 ..) ?_;exact k
end
theorem join_nd {p p':PS} {a b:Nat} (e:HY p a b=some p'):p'.nd=p.nd:=by
 refine bo_ e fun c zz e=>bo_ e fun d zz e=>?_
 refine an2 (CT e) fun zz e=>?_
 cases q:H7 c d with
 | true=>rw[q] at e;cases e;rfl
 | false=>
  rw[q] at e
  refine bo_ e fun zz zz e=>bo_ e fun zz zz e=>bo_ e fun zz zz e=>bo_ e fun zz zz e=>bo_ e fun zz zz e=>bo_ e fun zz zz e=>?_
  refine an2 (CT e) fun zz e=>?_
  cases e;rfl
theorem look_nd {p p':PS} {n:Nat} (e:Fw p n=some p'):p'.nd=p.nd:=by
 refine bo_ e fun d zz e=>?_
 cases q:Cn p.kn d with
 | none=>
  rw[q] at e
  refine bo_ e fun zz zz e=>?_
  refine an2 (CT e) fun zz e=>?_
  cases e;rfl
 | some o=>
  rw[q] at e
  refine bo_ e fun c zz e=>bo_ e fun c' zz e=>?_
  cases q2:H7 c c' with
  | true=>rw[q2] at e;cases e;rfl
  | false=>rw[q2] at e;exact join_nd e
theorem idx_app {d:Nd}:∀{l:List Nd},Cw l d=none→Cw (l++[d]) d=some l.length:=by
 intro l
 induction l with
 | nil=>
  intro _
  show (I6 _ (some 0) (Cg d d):Option Nat)=_
  refine wg (Ch.mpr rfl) ?_;rfl
 | cons a l ih=>
  intro h
  have h:(I6 (V3 c9 (Cw l d)) (some 0) (Cg a d):Option Nat)=none:=h
  show (I6 (V3 c9 (Cw (l++[d]) d)) (some 0) (Cg a d):Option Nat)=_
  cases e:Cg a d with
  | true=>rw[e] at h;cases h
  | false=>
   rw[e] at h
   have h:Cw l d=none:=Option.map_eq_none_iff.mp h
   show (Cw (l++[d]) d).map (·+1)=_
   refine wg (ih h) ?_;rfl
theorem add_nd {p p':PS} {d:Nd} {n:Nat} (e:FJ p d=some (p',n)):p'.nd=p.nd++[d]∧Cw p.nd d=none∧Cw p'.nd d=some n∨Cw p.nd d=some n∧p'=p:=
 add_ e (fun h e=>.inr ⟨h,e⟩) fun ks ei zz zz zz zz zz zz zz e2 en=>.inl (have q:p'.nd=p.nd++[d]:=look_nd e2;⟨q,ei,by refine wg q (wg en ?_);exact idx_app ei⟩)
section
variable {sc:Addr} {ns:List Int} {p:PS} {x:HS}
theorem nds_cmp {b:Bool} {n:Nat} {l:List Nd} (h:∀a∈l,a.1<16):(l.map BI).all (V.ok b (n+1))=true:=E0.mpr fun v hv=>by
 refine BD (B5.mp hv) fun a ha hh2=>?_;obtain rfl:=hh2
 exact DB (h a ha)
theorem y_added (h:Rep p x) {d:Nd} {n m:Nat} {p':PS} {K:KV} (hl:x.ln=p.nd.map BI) (hd:d.1<16∧d.2.length≤20) (e:FJ p d=some (p',n)) (k:∀x',Rep p' x'→Fr x x'→x'.ln=p'.nd.map BI→K (iN n) (H p' x')):Phi sc ns (m+6) 496 [.loc 2,.loc 19,BI d] (H p x) K:=by
 have z:(V.str (opN d.1)::d.2.map iN).length≤4096:=by refine wg K9 (wg (A4 ..) ?_);exact A3 (B1 hd.2) (by decide)
 refine A0 rfl (A0 (at_ rfl rfl trivial) (A0 ⟨z,H3 0⟩ (A0 (D6 z) ?_)))
 refine y_hadd h e fun x' h' f' l'=>?_
 have zn':p'.nd.length≤40:=h'.zn.1
 have hl2:∀a∈p.nd,a.1<16:=fun a ha=>(h.nd a ha).1
 have hl3:∀a∈p'.nd,a.1<16:=fun a ha=>(h'.nd a ha).1
 have hln:x'.ln=p.nd.map BI:=l'.trans hl
 have zk:(p.nd.map BI).length≤40:=by refine wg (A4 ..) ?_;exact h.zn.1
 have fin:∀{x2:HS},Rep p' x2→Fr x x2→x2.ln=p'.nd.map BI→Cw p'.nd d=some n→aL (H p' x2) (.loc 19) fun l=>((∀v∈l,V.key 8 v=true)∧V.key 8 (BI d)=true∧l.length≤4096)∧so (l.findIdx? fun y=>decide (y=BI d)) fun j=>K (.int j) (H p' x2):=fun {x2} r2 f2 e2 ei=>by
  refine pL_ (l:=x2.ln) rfl ?_
  refine wg e2 ?_
  refine A0 ⟨fun v hv=>?_,DB hd.1,by refine wg (A4 ..) ?_;exact up zn' rfl⟩ ?_
  ·refine BD (B5.mp hv) fun a ha hh2=>?_;obtain rfl:=hh2
   exact DB (hl3 a ha)
  ·refine wg ((EL hd.1 hl3).1) (wg ei ?_)
   exact k x2 r2 f2 e2
 refine pL_ (l:=x'.ln) rfl ?_
 refine wg hln ?_
 refine A0 ⟨?_,DB hd.1⟩ (A0 (fun q=>?_) fun q=>?_)
 ·show (true&&(p.nd.map BI).all (V.ok true 7))=true
  refine wg (nds_cmp hl2) ?_;rfl
 ·have q:=DW q
  rw[(EL hd.1 hl2).2] at q
  refine (add_nd e).elim (fun w=>?_) fun w=>absurd (by refine wg w.1 ?_;rfl) q
  refine A0 (pL_ rfl trivial) (pL_ (l:=x'.ln) rfl ?_)
  refine wg hln ?_
  refine A0 (A3 zk (by decide)) ?_
  have en:p.nd.map BI++[BI d]=p'.nd.map BI:=by refine wg w.1 (wg G5 ?_);rfl
  refine wg en ?_
  exact A0 (pL_ rfl trivial) (fin (x2:={x' with ln:=p'.nd.map BI}) h'.ln ⟨f'.r,f'.p,f'.a,f'.z,f'.f⟩ rfl w.2.2)
 ·have q:=Dr q
  rw[(EL hd.1 hl2).2] at q
  refine (add_nd e).elim (fun w=>by rw[w.2.1] at q;cases q) fun w=>?_
  rw[←w.2] at hln w
  exact A0 (pL_ rfl trivial) (fin h' f' hln w.1)
end
theorem pre_eq:∀{l hp:Hp},(∀i o,l.f i=some o→hp.f i=some o)→hp=l++hp.drop l.length:=by
 intro l
 induction l with
 | nil=>exact fun zz=>rfl
 | cons o l ih=>
  intro hp h
  cases hp with
  | nil=>exact nomatch h 0 o rfl
  | cons o' r=>
   cases h 0 o rfl
   exact congrArg (o::·) (ih fun i o q=>h (i+1) o q)
section
variable {p:PS} {x:HS}
theorem H_agr (h:Rep p x) {j:Nat} {hp':Hp} (hj:∀a∈x.as,j≠a∧j≠a+1) (A:Agr [j+20] (H p x) hp'):∃v,hp'=H p {x with v:=v}∧Rep p {x with v:=v}∧∀i o,i≠j→x.v.f i=some o→v.f i=some o:=by
 have e:=pre_eq (l:=H p {x with v:=[]}) (hp:=hp') fun i o q=>A i o (fun m=>by
  have m:=A8.mp m
  have:=DF q
  have:i<20:=this
  omega) (show Hp.f (H p {x with v:=[]}++x.v) i=some o from BT q)
 have old:∀i o,i≠j→x.v.f i=some o→Hp.f (hp'.drop 20) i=some o:=fun i o ne q=>by
  have q2:hp'.f (i+20)=some o:=A (i+20) o (fun m=>ne (Nat.add_right_cancel (A8.mp m))) q
  rw[e] at q2
  exact q2
 refine ⟨hp'.drop 20,e,⟨h.w7,h.w8,h.zm,h.zn,h.zk,fun ha hl=>?_,fun a ha=>?_,h.sp,h.un,h.uk,fun hc=>?_,fun e0 {c l} hc=>?_,h.nd,h.kn⟩,old⟩
 ·have w:=h.la ha hl
  exact ⟨old _ _ (hj _ (B9 ha)).1.symm w.1,w.2⟩
 ·have z:=h.a2 a ha
  have q:x.v.f (a+1)=some x.v[a+1]:=by exact wg (CM ..) (wg (B4 (z)) rfl)
  have:=DF (old _ _ (hj a ha).2.symm q)
  show a+2≤(hp'.drop 20).length
  (exact this)
 ·have w:=h.u hc
  exact ⟨w.1,w.2.imp id fun x=>x.imp fun zz z=>⟨z.1,z.2.1,old _ _ (hj _ (B9 z.1)).2.symm z.2.2⟩⟩
 ·refine Bo (h.u0 e0 hc) fun a' q1 q2 q3=>?_
  exact ⟨a',q1,q2,old _ _ (hj _ (B9 q1)).2.symm q3⟩
end
noncomputable def subF (hi lo:Nat) (h:Nat):Nat:=I6 h lo (H7 h hi)
noncomputable def mapR {α β:Type} (f:α→β) (l:List α):List β:=I8 [] (fun x zz ih=>f x::ih) l
theorem Ic {α β:Type} {f:α→β} {l:List α}:mapR f l=l.map f:=I8 rfl (fun x l ih=>congrArg (f x::·) ih) l
noncomputable def wishF (ws:List (Nat×Nat)):List Nat→Option (List Nat):=I8 some (fun w zz ih hm=>bo (nth hm w.1) fun x=>bo (nth hm w.2) fun y=>ih (mapR (subF (mxN x y) (mnN x y)) hm)) ws
noncomputable def keyF (hm:List Nat) (d:Nd):Option Nd:=bo (IZ (nth hm) d.2) fun ks=>some (d.1,ks)
noncomputable def firstF (hm:List Nat) (n:Nat) (nd:List Nd):List (Nd×Nat)→List (Nat×Nat)→Option (List (Nd×Nat)×List (Nat×Nat)):=I8 (fun zz fs ws=>some (fs,ws)) (fun d zz ih n fs ws=>bo (keyF hm d) fun k=>Y0 (bo (nth hm n) fun zz=>ih (n+1) (fs++[(k,n)]) ws) (fun f=>bo (nth hm f) fun x=>bo (nth hm n) fun y=>ih (n+1) fs (I6 (ws++[(f,n)]) ws (H7 x y))) (Cn fs k)) nd n
noncomputable def Ha (nd:List Nd) (f:Nat):List (Nat×Nat)→List Nat→List (Nd×Nat)→Option (List Nat×List (Nd×Nat)):=Aq (fun zz zz zz=>none) (fun zz ih ws hm fs=>I8 (some (hm,fs)) (fun zz zz zz=>bo (wishF ws hm) fun hm=>bo (firstF hm 0 nd [] []) fun q=>ih q.2 hm q.1) ws) f
noncomputable def lotB (hm:List Nat) (c:Nat) (p:Nd×Nat):Bool:=Y0 false (fun h=>H7 h c) (nth hm p.2)
noncomputable def DS (hm:List Nat) (fs:List (Nd×Nat)) (c:Nat):List Nd:=I8 [] (fun p zz ih=>I6 ih (p.1::ih) (lotB hm c p)) fs
theorem wish_len:∀{ws:List (Nat×Nat)} {hm hm'},wishF ws hm=some hm'→hm'.length=hm.length:=by
 intro ws
 induction ws with
 | nil=>exact fun h=>by cases h;rfl
 | cons w r ih=>
  intro hm hm' h
  refine bo_ h fun x zz h=>bo_ h fun y zz h=>?_
  exact wg (ih h) (wg Ic (wg (A4 ..) rfl))
theorem lot_app {hm:List Nat} {q:Nd×Nat} {c':Nat}:∀{dn},DS hm (dn++[q]) c'=DS hm dn c'++I6 [] [q.1] (lotB hm c' q):=by
 intro dn
 induction dn with
 | nil=>show (I6 [] [q.1] (lotB hm c' q):List Nd)=[]++_;rfl
 | cons p dn ih=>
  show (I6 (DS hm (dn++[q]) c') (p.1::DS hm (dn++[q]) c') (lotB hm c' p):List Nd)=I6 (DS hm dn c') (p.1::DS hm dn c') (lotB hm c' p)++_
  refine wg ih ?_
  cases lotB hm c' p <;> rfl
theorem lot_len {hm:List Nat} {c:Nat}:∀{fs},(DS hm fs c).length≤fs.length:=by
 intro fs
 induction fs with
 | nil=>exact B2 0
 | cons p fs ih=>
  show (I6 (DS hm fs c) (p.1::DS hm fs c) (lotB hm c p):List Nd).length≤_
  cases lotB hm c p with
  | true=>exact B1 ih
  | false=>exact E7 ih
theorem lookK_app {t:List (Nd×Nat)} {d:Nd} {v:Nat}:∀{l:List (Nd×Nat)},Cn l d=some v→Cn (l++t) d=some v:=by
 intro l
 induction l with
 | nil=>exact fun h=>nomatch h
 | cons p l ih=>
  intro h
  have h:(I6 (Cn l d) (some p.2) (Cg p.1 d):Option Nat)=some v:=h
  show (I6 (Cn (l++t) d) (some p.2) (Cg p.1 d):Option Nat)=some v
  cases e:Cg p.1 d with
  | true=>rw[e] at h;exact h
  | false=>rw[e] at h;exact ih h
theorem lookK_new {d:Nd} {n:Nat}:∀{l:List (Nd×Nat)},Cn l d=none→Cn (l++[(d,n)]) d=some n:=by
 intro l
 induction l with
 | nil=>
  intro _
  show (I6 none (some n) (Cg d d):Option Nat)=some n
  exact wg (Ch.mpr rfl) rfl
 | cons p l ih=>
  intro h
  have h:(I6 (Cn l d) (some p.2) (Cg p.1 d):Option Nat)=none:=h
  show (I6 (Cn (l++[(d,n)]) d) (some p.2) (Cg p.1 d):Option Nat)=some n
  cases e:Cg p.1 d with
  | true=>rw[e] at h;cases h
  | false=>rw[e] at h;exact ih h
noncomputable def rng (a n:Nat):List Nat:=Aq (fun zz=>[]) (fun zz ih a=>a::ih (a+1)) n a
theorem Gn:∀{n a:Nat},EU (a:Int) n=(rng a n).map iN:=by
 intro n
 induction n with
 | zero=>exact rfl
 | succ n ih=>exact fun {a}=>congrArg (iN a::·) (ih (a:=a+1))
theorem FM:∀{n a:Nat},(rng a n).length=n:=by
 intro n
 induction n with
 | zero=>exact rfl
 | succ n ih=>exact congrArg (·+1) ih
noncomputable def enF:Nat→List Nd→List V
 | _,[]=>[]
 | n,d::r=>.tup [iN n,BI d]::enF (n+1) r
theorem enm_eq:∀{l:List Nd} {n:Nat},(l.map BI).mapIdx (fun i v=>V.tup [.int ((i+n:Nat):Int),v])=enF n l:=by
 intro l
 induction l with
 | nil=>exact rfl
 | cons d l ih=>
  intro n
  refine wg Q2 (wg List.mapIdx_cons (wg (I0 ..) ?_))
  refine congrArg (V.tup [iN n,BI d]::·) (Eq.trans ?_ (ih (n:=n+1)))
  refine congrFun (congrArg List.mapIdx (funext fun i=>funext fun v=>?_)) _
  exact wg (M2 ..) (wg (P7 1 n) rfl)
theorem pair_cmp {l:List (Nat×Nat)}:V.cmp 8 (.lst (l.map By))=true:=by
 show (true&&(l.map By).all (V.ok true 7))=true
 refine wg (u9 ..) ?_
 exact E0.mpr fun v hv=>by refine BD (B5.mp hv) fun p zz hh2=>?_;obtain rfl:=hh2;rfl
section
variable {sc:Addr} {ns:List Int}
theorem lots_a {hp:Hp} {hm hm':List Nat} {ws:List (Nat×Nat)} {v0 v1 v3 v4:V} {x5 x6 x7 x8 x9 x10 x11 x12:Option V} {g:Hp→Prop} {N:Lc→Hp→Prop} {R:KV} (hg:g hp) (hz:hm.length≤40) (e:wishF ws hm=some hm')
  (k:∀x5 x6 x7 x8,N [some v0,some v1,some (.lst (hm'.map iN)),some v3,some v4,x5,x6,x7,x8,x9,x10,x11,x12] hp):
  xloop (Bw [(BE 5),(BE 6)]) (xseq (BO (BK DI [(Bg (Bj [(BJ BN (BB 2) (BB 5)),(BJ BN (BB 2) (BB 6))]))]) (Bw [(BE 7),(BE 8)])) (xseq (BO (Bg (Bf 1 [8,7] (Bi (BB 2)) (BE 0) (BY (xite (xtb (BJ (Bl false) (BB 0) (BB 1))) (BB 2) (BB 0))))) (BE 2)) BF)) g N R (ws.map By) [some v0,some v1,some (.lst (hm.map iN)),some v3,some v4,x5,x6,x7,x8,x9,x10,x11,x12] hp:=by
 refine Fh (fun ws Q=>∀hm x5 x6 x7 x8,hm.length≤40→wishF ws hm=some hm'→Q [some v0,some v1,some (.lst (hm.map iN)),some v3,some v4,x5,x6,x7,x8,x9,x10,x11,x12] hp) (fun w ws Z hZ hm x5 x6 x7 x8 hz e=>A0 hg ?_) (fun hm x5 x6 x7 x8 hz e=>A0 hg ?_) ws hm x5 x6 x7 x8 hz e
 ·refine CI e fun x ex e=>CI e fun y ey e=>?_
  have zl:(hm.map iN).length≤4096:=by refine wg (A4 ..) ?_;exact A3 hz (by decide)
  have gx:(hm.map iN)[w.1]?=some (iN x):=by refine wg G0 (wg ex ?_);rfl
  have gy:(hm.map iN)[w.2]?=some (iN y):=by refine wg G0 (wg ey ?_);rfl
  have em:(hm.map iN).map (fun v=>iN (subF (mxN x y) (mnN x y) (Dv v)))=(mapR (subF (mxN x y) (mnN x y)) hm).map iN:=by refine wg Ic (wg G2 (wg G2 ?_));rfl
  refine A0 rfl (A0 ⟨zl,C6 _⟩ (so_ gx (A0 ⟨zl,C6 _⟩ (so_ gy ⟨[(x:Int),(y:Int)],rfl,A6 rfl,fun m' pm ps=>?_⟩))))
  refine wg (Gk pm ps) ?_
  refine A0 rfl (Dq (f:=fun v=>iN (subF (mxN x y) (mnN x y) (Dv v))) zl trivial (fun v hv K z=>?_) ?_)
  ·refine BD (B5.mp hv) fun i hi hh2=>?_;obtain rfl:=hh2
   have z:K (iN (I6 i (mnN x y) (H7 i (mxN x y)))) hp:=z
   refine A0 ⟨rfl,rfl⟩ (A0 (fun q=>?_) fun q=>?_)
   ·have q:=of_decide_eq_true (FE.symm.trans q)
    rw[q,R7] at z
    exact z
   ·have q:¬i=mxN x y:=of_decide_eq_false (FE.symm.trans q)
    cases eb:H7 i (mxN x y) with
    | true=>exact absurd (F6 eb) q
    | false=>rw[eb] at z;exact z
  ·refine wg em ?_
   exact hZ _ _ _ _ _ (by refine wg Ic (wg (A4 ..) ?_);exact hz) e
 ·cases e
  exact k _ _ _ _
end
theorem keyF_ok {hm:List Nat} {d k:Nd} (e:keyF hm d=some k) (hd:d.1<16∧d.2.length≤20):k.1=d.1∧(k.1<16∧k.2.length≤20)∧(d.2.map fun i=>iN (hm.getD i 0))=k.2.map iN∧∀i∈d.2,∃h,hm[i]?=some h:=by
 refine bo_ e fun ks e2 e=>?_
 cases e
 refine an2 (Cu e2 0) fun e3 e4=>?_
 refine ⟨rfl,⟨hd.1,by refine wg e3 (wg (A4 ..) ?_);exact hd.2⟩,?_,fun i hi=>(e4 i hi).imp fun h q=>Dl▸q⟩
 refine wg e3 (wg G2 ?_)
 exact H4 fun i hi=>by
  refine ex1 (e4 i hi) fun h hh=>?_
  show iN (hm.getD i 0)=iN ((nth hm i).getD 0)
  exact wg Dl (wg P5 rfl)
structure Fs (hm:List Nat) (fs:List (Nd×Nat)):Prop where
 p:∀p∈fs,p.2<hm.length∧p.1.1<16∧p.1.2.length≤20
 z:fs.length≤100
 u:∀p∈fs,Cn fs p.1=some p.2
theorem Fs.key {hm fs} (h:Fs hm fs) {d:Nd} (hd:d.1<16):Br (knV fs) (BI d):=⟨DB hd,fun q hq=>by refine BD (B5.mp hq) fun r zz hh2=>?_;obtain rfl:=hh2;rfl,by show (fs.map _).length≤4096;refine wg (A4 ..) ?_;have:=h.z;exact up this rfl⟩
theorem x_en {t:XT} {m:XS} {g:Hp→Prop} {N:Lc→Hp→Prop} {R:KV} (I:Nat→List Nd→(Lc→Hp→Prop)→Prop) (step:∀n d r Z,I (n+1) r Z→I n (d::r) fun lc hp=>g hp∧t (.tup [iN n,BI d]) lc hp fun lc hp=>m lc hp Z R) (done:∀n,I n [] fun lc hp=>g hp∧N lc hp):∀n l,I n l (xloop t m g N R (enF n l)):=by
 intro n l
 induction l generalizing n with
 | nil=>exact done n
 | cons d r ih=>exact step n d r _ (ih (n+1))
section
variable {sc:Addr} {ns:List Int}
theorem lots_b {h0:Hp} {nv:Nat} {nd:List Nd} {hm:List Nat} {q:List (Nd×Nat)×List (Nat×Nat)} {v1:V} {x5 x6 x7 x8 x9 x10 x11 x12:Option V} {N:Lc→Hp→Prop} {R:KV} (hn:h0.f nv=some (.list (nd.map BI))) (hd:∀d∈nd,d.1<16∧d.2.length≤20) (zn:nd.length≤40) (hz:hm.length=nd.length) (e:firstF hm 0 nd [] []=some q)
  (k:∀x9 x10 x11,Fs hm q.1→q.2.length≤40→N [some (.loc nv),some v1,some (.lst (hm.map iN)),some (.loc h0.length),some (.loc (h0.length+1)),x5,x6,x7,x8,x9,x10,x11,x12] (h0++[.dict true (knV q.1),.list (q.2.map By)])):
  xloop (Bw [(BE 9),(BE 10)]) (xseq (BO (xbm 1 Bt (BB 3) [(BJ CB (BW [(BJ BN (BB 10) (BH (.int 0)))]) (BK CJ [(Bg (Bf 1 [2] (Bi (xun CF (BB 10))) (BE 0) (BY (BJ BN (BB 1) (BB 0)))))])),(BB 9)]) (BE 11)) (xseq (xif (xtb (BJ (Bl true) (BJ BN (BB 2) (BB 11)) (BJ BN (BB 2) (BB 9)))) (xseq (BX (xbm 0 BZ (BB 4) [(BW [(BB 11),(BB 9)])])) BF) BF) BF)) (fun hp=>hp.f nv=some (.list (nd.map BI))) N R (enm (nd.map BI))
   [some (.loc nv),some v1,some (.lst (hm.map iN)),some (.loc h0.length),some (.loc (h0.length+1)),x5,x6,x7,x8,x9,x10,x11,x12] (h0++[.dict true [],.list []]):=by
 have zl:(hm.map iN).length≤4096:=by refine wg (A4 ..) ?_;(refine wg hz ?_;exact up zn rfl)
 have gt:∀{i h},hm[i]?=some h→(hm.map iN)[i]?=some (iN h):=fun {i h} e=>by refine wg G0 (wg e ?_);rfl
 refine (show enF 0 nd=enm (nd.map BI) from (enm_eq (n:=0)).symm)▸x_en (fun n rs Q=>∀fs ws x9 x10 x11,n+rs.length=nd.length→(∀d∈rs,d∈nd)→firstF hm n rs fs ws=some q→Fs hm fs→fs.length≤n→ws.length≤n→Q [some (.loc nv),some v1,some (.lst (hm.map iN)),some (.loc h0.length),some (.loc (h0.length+1)),x5,x6,x7,x8,x9,x10,x11,x12] (h0++[.dict true (knV fs),.list (ws.map By)])) (fun n d rs Z hZ fs ws x9 x10 x11 en hr e hF zf zw=>A0 (BT hn) ?_) (fun n fs ws x9 x10 x11 en hr e hF zf zw=>A0 (BT hn) ?_) 0 nd [] [] x9 x10 x11 (I0 _) (fun zz h=>h) e ⟨nofun,E2 _,nofun⟩ (B2 _) (B2 _)
 ·rw[K9] at en
  have d2:=hd d (hr d (.head _))
  refine bo_ e fun ky ek e=>?_
  refine an4 (keyF_ok ek d2) fun k1 k2 k3 k4=>?_
  have hn2:n<nd.length:=AY (N0 (L0 _)) en
  have zn2:=A9 hn2 zn
  have zp:(ws.map By).length≤4096:=by refine wg (A4 ..) ?_;exact A3 zw (A3 (D9 zn2) (by decide))
  have z2:(d.2.map iN).length≤20:=by refine wg (A4 ..) ?_;exact d2.2
  have z1:(V.str (opN d.1)::d.2.map iN).length≤4096:=A3 (B1 z2) (by decide)
  have ekv:(d.2.map iN).map (fun v=>iN (hm.getD (Dv v) 0))=ky.2.map iN:=by refine wg G2 ?_;exact k3
  have e5:V.tup ([.str (opN d.1)]++ky.2.map iN)=BI ky:=by refine wh k1 ?_;rfl
  have en2:n+1+rs.length=nd.length:=(N5 n 1 _).trans en
  have hr2:∀d∈rs,d∈nd:=fun d hd=>hr d (.tail _ hd)
  refine an2 (Ib (l:=fs) k2.1 fun p hp=>(hF.p p hp).2.1) fun g1 g2=>?_
  refine A0 rfl (A0 (pD_ f0 trivial) (A0 ⟨z1,H3 0⟩ (A0 (A3 z2 (by decide)) (Dq (f:=fun v=>iN (hm.getD (Dv v) 0)) (A3 z2 (by decide)) trivial (fun v hv Z z=>?_) ?_))))
  ·refine BD (B5.mp hv) fun i hi hh2=>?_;obtain rfl:=hh2
   refine ex1 (k4 i hi) fun h hh=>?_
   have z:Z (iN (hm.getD i 0)) _:=z
   rw[P5,hh] at z
   exact A0 ⟨zl,C6 _⟩ (so_ (gt hh) z)
  refine wg ekv ?_
  have z3:(ky.2.map iN).length≤20:=by refine wg (A4 ..) ?_;exact k2.2
  refine A0 (A3 z3 (by decide)) (A0 (show 1+_≤4096 from A3 (B7 z3 1) (by decide)) ?_)
  refine wg e5 ?_
  refine pD_ f0 (A0 (hF.key k2.1) ?_)
  cases ef:Cn fs ky with
  | none=>
   rw[ef] at g1
   rw[ef] at e
   refine CI e fun y ey e=>?_
   have en3:Bc (knV fs) (BI ky) (iN n)=knV (fs++[(ky,n)]):=(Cd (g2 ef)).trans (G5 (l₁:=fs) (l₂:=[(ky,n)])).symm
   have zf2:(fs++[(ky,n)]).length≤n+1:=by refine wg A7 ?_;exact B1 zf
   have hF2:Fs hm (fs++[(ky,n)]):=⟨fun p hp=>(C5.mp hp).elim (hF.p p) fun m=>by refine wg (A8.mp m) ?_;exact ⟨hz▸hn2,k2⟩,A3 zf2 (A3 zn2 (by decide)),fun p hp=>(C5.mp hp).elim (fun m=>lookK_app (hF.u p m)) fun m=>by refine wg (A8.mp m) ?_;exact lookK_new ef⟩
   refine oV_n g1 ?_
   refine wg en3 (wg p0 ?_)
   refine A0 ⟨zl,C6 _⟩ (so_ (gt ey) (A0 ⟨zl,C6 _⟩ (so_ (gt ey) (A0 ⟨rfl,rfl⟩ (A0 (fun q=>absurd rfl (DW q)) fun zz=>hZ _ _ _ _ _ en2 hr2 e hF2 zf2 (E7 zw))))))
  | some f=>
   rw[ef] at g1
   rw[ef] at e
   refine CI e fun x ex e=>CI e fun y ey e=>oV_s g1 ?_
   refine A0 ⟨zl,C6 _⟩ (so_ (gt ex) (A0 ⟨zl,C6 _⟩ (so_ (gt ey) (A0 ⟨rfl,rfl⟩ (A0 (fun q=>?_) fun q=>?_)))))
   ·have ne:x≠y:=fun q2=>DW q (by exact wg q2 rfl)
    have eb:H7 x y=false:=by
     cases eb:H7 x y with
     | true=>exact absurd (F6 eb) ne
     | false=>rfl
    rw[eb] at e
    refine A0 (pL_ f1 trivial) (pL_ f1 (A0 zp ?_))
    have ea:ws.map By++[V.tup [iN f,iN n]]=(ws++[(f,n)]).map By:=by refine wg G5 ?_;rfl
    refine wg p1 (wg ea ?_)
    exact hZ _ _ _ _ _ en2 hr2 e hF (E7 zf) (by refine wg A7 ?_;exact B1 zw)
   ·have q:=L8 (V.int.inj (Dr q))
    subst q
    rw[R7] at e
    exact hZ _ _ _ _ _ en2 hr2 e hF (E7 zf) (E7 zw)
 ·cases e
  exact k _ _ _ hF (A3 zw (A3 (B3 en) zn))
end
theorem put_ge {h g:Hp} {a:Nat} {o:PO} (ha:h.length≤a):∃g',Hp.put (h++g) a o=h++g':=⟨g.set (a - h.length) o,by exact wg (Bz ..) (wg (t0 _ _ ha) rfl)⟩
structure LT (L:Nat→List Nd) (lv:Nat) (D:List (V×V)) (h:Hp):Prop where
 n:(D.map (·.1)).Nodup
 k:∀p∈D,p.1.kind=0
 d:h.f lv=some (.dict true D)
 l:∀c,L c≠[]→∃a,BR D (iN c)=some (.loc a)∧lv<a∧h.f a=some (.list ((L c).map BI))
 o:∀c,L c=[]→BR D (iN c)=none
 u:∀{c c' a},BR D (iN c)=some (.loc a)→BR D (iN c')=some (.loc a)→c=c'
section
variable {L L':Nat→List Nd} {lv:Nat} {D:List (V×V)} {h:Hp} {d:Nd} {c:Nat}
theorem LT.old (T:LT L lv D h) (h1:L' c=L c++[d]) (h2:∀c',c'≠c→L' c'=L c') {a:Nat} (e:BR D (iN c)=some (.loc a)):(lv<a∧h.f a=some (.list ((L c).map BI)))∧LT L' lv D (Hp.put (h++[PO.list []]) a (.list ((L c).map BI++[BI d]))):=by
 have ne:L c≠[]:=fun w=>by rw[T.o c w] at e;cases e
 refine Bo (T.l c ne) fun a' e1 e2 e3=>?_
 cases e1.symm.trans e
 refine ⟨⟨e2,e3⟩,T.n,T.k,(Bb (J6 e2)).trans (BT T.d),fun c' hc=>?_,fun c' hc=>?_,T.u⟩
 ·by_cases ec:c'=c
  ·subst ec
   refine ⟨a,e,e2,?_⟩
   refine wg h1 (wg G5 ?_)
   exact CG (by refine wg A7 ?_;exact A9 (DF e3) (C0 _ _))
  ·rw[h2 c' ec] at hc ⊢
   refine Bo (T.l c' hc) fun b b1 b2 b3=>?_
   exact ⟨b,b1,b2,(Bb fun w=>ec (by subst w;exact T.u b1 e)).trans (BT b3)⟩
 ·by_cases ec:c'=c
  ·subst ec;rw[h1] at hc;cases (r0.mp hc).2
  ·exact T.o c' (h2 c' ec▸hc)
theorem LT.new (T:LT L lv D h) (h1:L' c=L c++[d]) (h2:∀c',c'≠c→L' c'=L c') (e:BR D (iN c)=none):LT L' lv (Bc D (iN c) (.loc h.length)) (Hp.put (Hp.put (h++[PO.list []]) lv (.dict true (Bc D (iN c) (.loc h.length)))) h.length (.list ([]++[BI d]))):=by
 have zl:=DF T.d
 have em:L c=[]:=by
  cases w:L c with
  | nil=>rfl
  | cons x r=>
   refine BD (T.l c (by refine wg w ?_;exact fun q=>nomatch q)) fun a e1 zz=>?_
   rw[e] at e1;cases e1
 have ne:∀{c'},c'≠c→iN c'≠iN c:=fun h e=>h (L8 (V.int.inj e))
 have back:∀{c' v},c'≠c→BR (Bc D (iN c) (.loc h.length)) (iN c')=some v→BR D (iN c')=some v:=fun {c' v} hc q=>by
  rcases putD_mem (GN q) with e2 | m
  ·cases e2;exact absurd rfl hc
  ·exact Cc T.n m
 have bound:∀{c' a},BR D (iN c')=some (.loc a)→a<h.length:=fun {c' a} e2=>by
  have ne:L c'≠[]:=fun w=>by rw[T.o c' w] at e2;cases e2
  refine Bo (T.l c' ne) fun a' b1 zz b3=>?_
  cases b1.symm.trans e2
  exact DF b3
 have lz:(Hp.put (h++[PO.list []]) lv (.dict true (Bc D (iN c) (.loc h.length)))).length=h.length+1:=by refine wg DT (wg A7 ?_);rfl
 refine ⟨Da T.n,fun p hp=>(putD_mem hp).elim (fun q=>by refine wg q ?_;rfl) (T.k p),(Bb (J6 zl)).trans (CG (by refine wg A7 ?_;exact M5 zl)),fun c' hc=>?_,fun c' hc=>?_,fun {c1 c2 a} h1 h2=>?_⟩
 ·by_cases ec:c'=c
  ·subst ec
   refine ⟨h.length,Ct T.n,zl,?_⟩
   refine wg h1 (wg em ?_)
   exact CG (by refine wg lz ?_;exact G7 _)
  ·rw[h2 c' ec] at hc ⊢
   refine Bo (T.l c' hc) fun b b1 b2 b3=>?_
   exact ⟨b,EJ T.n (ne ec) b1,b2,(Bb (J6 (DF b3))).trans ((Bb (E4 b2)).trans (BT b3))⟩
 ·by_cases ec:c'=c
  ·subst ec;rw[h1] at hc;cases (r0.mp hc).2
  ·cases w:BR (Bc D (iN c) (.loc h.length)) (iN c') with
   | none=>rfl
   | some v=>have:=back ec w;rw[T.o c' (h2 c' ec▸hc)] at this;cases this
 ·by_cases ec1:c1=c
  ·by_cases ec2:c2=c
   ·exact wg ec1 (wg ec2 rfl)
   ·rw[ec1,Ct T.n] at h1
    cases h1
    exact absurd (bound (back ec2 h2)) (N9 _)
  ·by_cases ec2:c2=c
   ·rw[ec2,Ct T.n] at h2
    cases h2
    exact absurd (bound (back ec1 h1)) (N9 _)
   ·exact T.u (back ec1 h1) (back ec2 h2)
end
theorem lots_c {hA:Hp} {d:Nat} {hm:List Nat} {fs:List (Nd×Nat)} {v0 v1 v4:V} {x5 x6 x7 x8 x9 x10 x11:Option V} {N:Lc→Hp→Prop} {R:KV} (hF:Fs hm fs) (hz:hm.length≤40) (hd:hA.f d=some (.dict true (knV fs)))
  (k:∀g D x10,Lts (hA++g) hA.length (DS hm fs) true D→N [some v0,some v1,some (.lst (hm.map iN)),some (.loc d),some v4,x5,x6,x7,x8,x9,x10,x11,some (.loc hA.length)] (hA++g)):
  xloop (BE 10) (xseq (BX (xbm 0 BZ (xbm 1 Bt (BB 12) [(BJ BN (BB 2) (BJ CH (BB 3) (BB 10))),(Bv (Bj []))]) [(BB 10)])) BF) (fun hp=>hp.f d=some (.dict true (knV fs))) N R ((knV fs).map (·.1)) [some v0,some v1,some (.lst (hm.map iN)),some (.loc d),some v4,x5,x6,x7,x8,x9,x10,x11,some (.loc hA.length)] (hA++[.dict true []]):=by
 have zl:(hm.map iN).length≤4096:=by refine wg (A4 ..) ?_;exact A3 hz (by decide)
 have h16:∀p∈fs,p.1.1<16:=fun p hp=>(hF.p p hp).2.1
 have ek:(knV fs).map (·.1)=fs.map fun p=>BI p.1:=by unfold knV;refine wg G2 ?_;rfl
 refine wg ek ?_
 refine Fh (f:=fun p=>BI p.1) (fun rs Q=>∀dn D x10 g,fs=dn++rs→LT (DS hm dn) hA.length D (hA++g)→D.length≤dn.length→Q [some v0,some v1,some (.lst (hm.map iN)),some (.loc d),some v4,x5,x6,x7,x8,x9,x10,x11,some (.loc hA.length)] (hA++g)) (fun q rs Z hZ dn D x10 g e T zD=>A0 (BT hd) ?_) (fun dn D x10 g e T zD=>A0 (BT hd) ?_) fs [] [] x10 _ rfl ⟨N4,nofun,Bn,fun c h=>absurd rfl h,fun zz zz=>rfl,fun h=>(nomatch h)⟩ (B2 _)
 ·have hq:q∈fs:=e▸B8 _ (.head _)
  have hn:=(hF.p _ hq).1
  obtain ⟨c,hc⟩:∃c,hm[q.2]?=some c:=⟨_,B4 hn⟩
  have hB:∀c',lotB hm c' q=H7 c c':=fun c'=>by
   unfold lotB
   exact wg Dl (wg hc rfl)
  have h1:DS hm (dn++[q]) c=DS hm dn c++[q.1]:=by exact wg lot_app (wg (hB ..) (wg (R7 ..) rfl))
  have h2:∀c',c'≠c→DS hm (dn++[q]) c'=DS hm dn c':=fun c' w=>by
   refine wg lot_app (wg (hB ..) ?_)
   cases eb:H7 c c' with
   | true=>exact absurd (F6 eb).symm w
   | false=>exact D8 _
  have gl:BR (knV fs) (BI q.1)=some (iN q.2):=(Ib (h16 q hq) h16).1.trans (congrArg (V3 iN) (hF.u q hq))
  have gc:(hm.map iN)[q.2]?=some (iN c):=by refine wg G0 (wg hc ?_);rfl
  have zd:dn.length≤100:=A3 (by refine wg e (wg A7 ?_);exact C0 _ _) hF.z
  have okc:Br D (iN c):=⟨rfl,T.k,A3 zD (A3 zd (by decide))⟩
  have e2:fs=(dn++[q])++rs:=e.trans (T8 ..)
  have zD1:D.length+1≤(dn++[q]).length:=by refine wg A7 ?_;exact B1 zD
  have zh:=DF T.d
  refine A0 (pD_ T.d trivial) (pD_ (BT hd) (A0 (hF.key (h16 q hq)) (so_ gl (A0 ⟨zl,C6 _⟩ (so_ gc (pD_ (BT T.d) (A0 okc ?_)))))))
  cases ek:BR D (iN c) with
  | some v=>
   have ne:DS hm dn c≠[]:=fun w=>by rw[T.o c w] at ek;cases ek
   refine BD (T.l c ne) fun a e1 zz=>?_
   cases ek.symm.trans e1
   refine an2 (T.old h1 h2 ek) fun hh0 T2=>?_;refine an2 hh0 fun w1 w2=>?_;clear hh0
   refine oV_s rfl (A0 (pL_ (BT w2) trivial) (pL_ (BT w2) (A0 (by refine wg (A4 ..) ?_;exact A3 lot_len (A3 zd (by decide))) ?_)))
   refine ex1 (put_ge (h:=hA) (g:=g++[.list []]) (a:=a) (o:= .list ((DS hm dn c).map BI++[BI q.1])) (D9 w1)) fun g' eg=>?_
   rw[←Bq] at eg
   rw[eg] at T2
   show Z _ (Hp.put (hA++g++[PO.list []]) a (.list ((DS hm dn c).map BI++[BI q.1])))
   refine wg eg ?_
   exact hZ _ D _ g' e2 T2 (E8 zD1)
  | none=>
   have T2:=T.new h1 h2 ek
   refine oV_n rfl ?_
   have fl:Hp.f (Hp.put (hA++g++[PO.list []]) hA.length (.dict true (Bc D (iN c) (.loc (hA++g).length)))) (hA++g).length=some (.list []):=(Bb (E4 zh)).trans Bn
   refine A0 (pL_ fl trivial) (pL_ fl (A0 (E2 _) ?_))
   refine ex1 (put_ge (h:=hA) (g:=g++[.list []]) (a:=hA.length) (o:= .dict true (Bc D (iN c) (.loc (hA++g).length))) (B2 _)) fun g' eg=>?_
   refine ex1 (put_ge (h:=hA) (g:=g') (a:=(hA++g).length) (o:= .list ([]++[BI q.1])) (D9 zh)) fun g2 eg2=>?_
   rw[←Bq] at eg
   rw[←eg] at eg2
   rw[eg2] at T2
   show Z _ (Hp.put (Hp.put (hA++g++[PO.list []]) hA.length (.dict true (Bc D (iN c) (.loc (hA++g).length)))) (hA++g).length (.list ([]++[BI q.1])))
   refine wg eg2 ?_
   refine hZ _ _ _ g2 e2 T2 (A3 ?_ zD1)
   rcases putD_cases (l:=D) (k:=iN c) with ⟨_,_,_,_,w⟩ | ⟨_,w⟩
   ·refine wg (w ..) (wg O4 ?_);exact O9 _
   ·refine wg (w ..) (wg A7 ?_);exact B2 _
 ·rw[D8] at e
  subst e
  exact k g D _ ⟨T.d,T.k,A3 zD (A3 hF.z (by decide)),fun c hc=>(T.l c hc).imp fun a q=>⟨q.1,q.2.2⟩⟩
noncomputable def IsLs (h:Hp) (v:V) (l:List V):Prop:=v= .lst l∨∃a,v= .loc a∧h.f a=some (.list l)
section
variable {h:Hp} {v:V} {l:List V}
theorem vw_ {P:V→Prop} (q:IsLs h v l) (p:P (.lst l)):vw h v P:=by
 rcases q with rfl | ⟨a,rfl,w⟩
 ·exact p
 ·exact pL_ w p
theorem src_ {K:KI} (q:IsLs h v l) (k:∀g:Hp→Prop,g h→K l g h):GP v h K:=by
 rcases q with rfl | ⟨a,rfl,w⟩
 ·exact k tt trivial
 ·exact pS_ w (k _ w)
theorem x_neN {i:Nat} {lc:Lc} {K:Bool→Hp→Prop} (hl:∀K:KV,K v h→BB i lc h K) (hv:IsLs h v l) (hc:V.cmp 8 (.lst l)=true∧V.cmp 8 (.lst [])=true) (k:K (decide (V.lst l= .lst [])^^true) h):xtb (BJ (Bl true) (BB i) (Bg (Bj []))) lc h K:=hl _ (vw_ (P:=fun a=>vw h (.lst []) fun b=>(V.cmp 8 a=true∧V.cmp 8 b=true)∧K (decide (a=b)^^true) h) hv (A0 hc k))
theorem srcD {d:Nat} {D:List (V×V)} {K:KI} (hd:h.f d=some (.dict true D)) (k:K (D.map (·.1)) (fun hp=>hp.f d=some (.dict true D)) h):GP (.loc d) h K:=pS_d hd k
theorem x_forL {i:Nat} {t:XT} {m:XS} {lc:Lc} {N:Lc→Hp→Prop} {R:KV} (hl:∀K:KV,K v h→BB i lc h K) (q:IsLs h v l) (k:∀g:Hp→Prop,g h→xloop t m g N R l lc h):Ck (Bi (BB i)) t m lc h N R:=hl (fun v hp=>GP v hp fun vs g hp=>xloop t m g N R vs lc hp) (src_ (K:=fun vs g hp=>xloop t m g N R vs lc hp) q k)
theorem x_forD {i d:Nat} {D:List (V×V)} {t:XT} {m:XS} {lc:Lc} {N:Lc→Hp→Prop} {R:KV} (hl:∀K:KV,K (.loc d) h→BB i lc h K) (hd:h.f d=some (.dict true D)) (k:xloop t m (fun hp=>hp.f d=some (.dict true D)) N R (D.map (·.1)) lc h):Ck (Bi (BB i)) t m lc h N R:=hl (fun v hp=>GP v hp fun vs g hp=>xloop t m g N R vs lc hp) (srcD (K:=fun vs g hp=>xloop t m g N R vs lc hp) hd k)
end
section
variable {sc:Addr} {ns:List Int}
theorem y_lots {hp:Hp} {nv f m:Nat} {nd:List Nd} {ps:List (Nat×Nat)} {hm:List Nat} {fs:List (Nd×Nat)} {K:KV} (hn:hp.f nv=some (.list (nd.map BI))) (hd:∀d∈nd,d.1<16∧d.2.length≤20) (zn:nd.length≤40) (zp:ps.length≤100) (e:Ha nd f ((0,0)::ps) (rng 0 nd.length) []=some (hm,fs))
  (k:∀g lv b D,Lts (hp++g) lv (DS hm fs) b D→K (.tup [.lst (hm.map iN),.loc lv]) (hp++g)):Phi sc ns (m+1) 501 [.loc nv,.lst (ps.map By)] hp K:=by
 have zl:(nd.map BI).length≤40:=by refine wg (A4 ..) ?_;exact zn
 have zl2:(nd.map BI).length≤4096:=A3 zl (by decide)
 have z2:(ps.map By).length≤100:=by refine wg (A4 ..) ?_;exact zp
 have er:EU 0 (m4 ((nd.map BI).length:Nat))=(rng 0 nd.length).map iN:=by refine wg (A4 ..) ?_;exact Gn
 refine A0 rfl (DX hn (A0 zl2 ?_))
 refine A0 (show (-4096:Int)≤((nd.map BI).length:Nat)∧(((nd.map BI).length:Nat):Int)≤4096 from ⟨N7 (by decide) (C6 _),T9.mpr zl2⟩) ?_
 refine wg er ?_
 refine A0 (A3 z2 (by decide)) (A0 (A3 (B7 z2 1) (by decide)) (A0 rfl (Az f ?_)))
 refine x_whC (fun f Q=>∀ws hm1 fs1 d v4 g x5 x6 x7 x8 x9 x10 x11,Ha nd f ws hm1 fs1=some (hm,fs)→hm1.length=nd.length→Fs hm1 fs1→Hp.f (hp++g) d=some (.dict true (knV fs1))→IsLs (hp++g) v4 (ws.map By)→Q [some (.loc nv),some (.lst (ps.map By)),some (.lst (hm1.map iN)),some (.loc d),some v4,x5,x6,x7,x8,x9,x10,x11,none] (hp++g)) (fun zz zz zz zz zz zz zz zz zz zz zz zz zz e=>(nomatch e)) (fun f Z hZ ws hm1 fs1 d v4 g x5 x6 x7 x8 x9 x10 x11 e z1 hF hfd hv=>?_) f ((0,0)::ps) (rng 0 nd.length) [] hp.length _ [.dict true []] none none none none none none none e FM ⟨nofun,E2 _,nofun⟩ Bn (.inl rfl)
 refine x_neN (fun K q=>q) hv ⟨pair_cmp,rfl⟩ ?_
 refine A0 (fun q=>?_) fun q=>?_
 ·cases ws with
  | nil=>exact absurd rfl (DW q)
  | cons w r=>
  refine bo_ e fun hm2 e1 e=>bo_ e fun q2 e2 e=>?_
  have z3:=(wish_len e1).trans z1
  refine x_forL (fun K q=>q) hv fun g1 hg1=>lots_a (ws:=w::r) hg1 (z1▸zn) e1 fun x5 x6 x7 x8=>A0 rfl ?_
  have e3:(hp++g++[PO.dict true []]).length=(hp++g).length+1:=by refine wg A7 ?_;rfl
  have e4:(hp++g++[PO.dict true []])++[PO.list []]=(hp++g)++[PO.dict true [],PO.list []]:=Bq
  refine pL_ (BT (BT (BT hn))) ?_
  show xloop _ _ _ _ _ _ [some (.loc nv),some (.lst (ps.map By)),some (.lst (hm2.map iN)),some (.loc (hp++g).length),some (.loc (hp++g++[PO.dict true []]).length),x5,x6,x7,x8,x9,x10,x11,none] ((hp++g++[PO.dict true []])++[PO.list []])
  refine wg e3 (wg e4 ?_)
  refine lots_b (q:=q2) (BT hn) hd zn z3 e2 fun x9 x10 x11 hF2 zw=>?_
  refine wg Bq ?_
  exact hZ q2.2 hm2 q2.1 (hp++g).length (.loc ((hp++g).length+1)) _ _ _ _ _ _ _ _ e z3 hF2 (by refine wh Bq ?_;exact f0) (.inr ⟨_,rfl,by refine wh Bq ?_;exact f1⟩)
 ·cases ws with
  | cons w r=>exact absurd (Dr q) fun q=>by cases V.lst.inj q
  | nil=>
  cases e
  refine x_forD (fun K q=>q) (BT hfd) (lots_c hF (z1▸zn) hfd fun g2 D x10 L=>?_)
  rw[Bq] at L ⊢
  exact k _ _ _ _ L
end
noncomputable def ps0:PS:=⟨[],[],[],[],[],[],0⟩
noncomputable def hs0 (row:List V):HS:=⟨row,0,[],[],[],[],[],true,[],[],[],[]⟩
section
variable {sc:Addr} {ns:List Int}
theorem y_bank {m:Nat} {a b c:PO} {K:KV} (k:K (.loc 4) [a,b,c,.ns 207 [.loc 5,.loc 6,.loc 7,.loc 8],.inst 207 3,.list [],.dict true [],.list [],.list []]):Phi sc ns (m+2) 207 [] [a,b,c] K:=by
 refine A0 rfl ?_
 iterate 4 refine at_ rfl rfl (A0 ⟨A6 rfl,A6 rfl⟩ ?_)
 exact A0 rfl k
theorem y_unions {m:Nat} {a b c d e f g i j:PO} {K:KV} (k:K (.loc 10) [a,b,c,d,e,f,g,i,j,.ns 346 [.loc 11,.loc 12,.loc 13],.inst 346 9,.list [],.list [],.list []]):Phi sc ns (m+2) 346 [] [a,b,c,d,e,f,g,i,j] K:=by
 refine A0 rfl ?_
 iterate 3 refine at_ rfl rfl (A0 ⟨A6 rfl,A6 rfl⟩ ?_)
 exact A0 rfl k
theorem x_call0 {fn:Fn} {t:XT} {m:XS} {lc:Lc} {hp:Hp} {N:Lc→Hp→Prop} {R:KV} (h:fn [] hp fun v hp=>t v lc hp fun lc hp=>m lc hp N R):xseq (BO (BK fn []) t) m lc hp N R:=h
theorem y_heap0 {m:Nat} {a:PO} {K:KV} (k:K (.loc 2) [a,.ns 478 [.loc 4,.loc 10,.loc 14,.loc 15,.loc 16,.loc 17,.loc 18,.int 0],.inst 478 1,.ns 207 [.loc 5,.loc 6,.loc 7,.loc 8],.inst 207 3,.list [],.dict true [],.list [],.list [],.ns 346 [.loc 11,.loc 12,.loc 13],.inst 346 9,.list [],.list [],.list [],.list [],.list [],.dict true [],.dict true [],.list []]):Phi sc ns (m+4) 478 [] [a] K:=by
 refine A0 rfl ?_
 show EF (Phi sc ns (m+2)) [some (.loc 2)] [a,.ns 478 [],.inst 478 1] _ _
 unfold EF
 refine x_call0 (y_bank (at_ rfl rfl (A0 ⟨A6 rfl,A6 rfl⟩ ?_)))
 refine x_call0 (y_unions ?_)
 iterate 7 refine at_ rfl rfl (A0 ⟨A6 rfl,A6 rfl⟩ ?_)
 exact A0 rfl k
theorem rep0 {row:List V}:Rep ps0 (hs0 row):=⟨⟨[],rfl,rfl⟩,⟨[],rfl,rfl⟩,⟨B2 _,rfl,B2 _,E2 _⟩,⟨E2 _,rfl,rfl,rfl,rfl⟩,⟨E2 _,E2 _⟩,fun h=>(nomatch h),nofun,.nil,N4,⟨nofun,B2 _⟩,fun h=>(nomatch h),fun _ {_ _} h=>(nomatch h),nofun,nofun⟩
noncomputable def modV (v:V):V:=match v with
 | .int i=>.int (i.fmod 1000003)
 | v=>v
theorem y_start {fn:Fn} {N:Lc→Hp→Prop} {R:KV} {r:Lc} (k:∀row:List V,Urn (hs0 row)→N (some (.gl (.ref sc))::some (.loc 0)::some (.loc 2)::some (.loc 19)::r) (H ps0 (hs0 row))) {x1 x2 x3:Option V}
  (hfn:∀{a:PO} {K:KV},K (.loc 2) [a,.ns 478 [.loc 4,.loc 10,.loc 14,.loc 15,.loc 16,.loc 17,.loc 18,.int 0],.inst 478 1,.ns 207 [.loc 5,.loc 6,.loc 7,.loc 8],.inst 207 3,.list [],.dict true [],.list [],.list [],.ns 346 [.loc 11,.loc 12,.loc 13],.inst 346 9,.list [],.list [],.list [],.list [],.list [],.dict true [],.dict true [],.list []]→fn [] [a] K):
  xswap (BW [Bx [((BH (.str "row")),(Bg (Bf 1 [] (Bi (xun (scrA (.ref sc) ns) (BB 0))) (BE 0) (BY (BJ modA (BK opInt [(BB 0)]) (BH (.int 1000003))))))),((BH (.str "at")),(BH (.int 0)))],BK fn [],Bv (Bj [])]) [1,2,3] (some (.gl (.ref sc))::x1::x2::x3::r) [] N R:=by
 obtain ⟨row,hrow⟩:∃row:List V,row=((ns.take 20).map V.int).map modV:=⟨_,rfl⟩
 have zr:((ns.take 20).map V.int).length≤4096:=by refine wg (A4 ..) ?_;exact A3 (AK ..) (by decide)
 have zrow:row.length≤4096:=by refine wg hrow (wg (A4 ..) ?_);exact zr
 have U:Urn (hs0 row):=⟨⟨0,rfl,by decide⟩,fun v hv=>by
  have hv:v∈row:=hv
  rw[hrow] at hv
  refine BD (B5.mp hv) fun w hw hh2=>?_;obtain rfl:=hh2
  refine BD (B5.mp hw) fun i zz hh2=>?_;obtain rfl:=hh2
  exact ⟨_,rfl⟩,zrow⟩
 have hk:=k row U
 refine A0 rfl (Dq (f:=modV) zr trivial (fun v hv Z z=>?_) ?_)
 ·refine BD (B5.mp hv) fun i zz hh2=>?_;obtain rfl:=hh2
  exact A0 (by decide) z
 refine wh hrow ?_
 refine pD_ rfl (A0 ⟨urn_ok.1,nofun,E2 _⟩ (pD_ rfl (A0 ⟨urn_ok.2,fun p hp=>?_,A6 rfl⟩ ?_)))
 ·have e:Bc [] (V.str "row") (V.lst row)=[(V.str "row",V.lst row)]:=Cd nofun
  rw[e] at hp
  refine wg (A8.mp hp) ?_;rfl
 have e:Bc (Bc [] (V.str "row") (V.lst row)) (V.str "at") (V.int 0)=[(V.str "row",V.lst row),(V.str "at",V.int 0)]:=by
  refine wg (show Bc [] (V.str "row") (V.lst row)=[(V.str "row",V.lst row)] from Cd nofun) ?_
  exact Cd fun m=>urn_ne (A8.mp m).symm
 refine wg e ?_
 exact hfn (A0 rfl hk)
end
noncomputable def Lw (p:PS) (x:HS):Prop:=Rep p x∧x.ln=p.nd.map BI∧Urn x
theorem Urn.fr {x x':HS} (u:Urn x) (f:Fr x x'):Urn x':=⟨f.p▸u.p,f.r▸u.r,f.r▸u.z⟩
noncomputable def addS (l:List Nd):PS→Option PS:=I8 some (fun d zz ih p=>bo (FJ p d) fun q=>ih q.1) l
noncomputable def Fx (o:Nat) (l:List Nat):List Nd:=l.map fun k=>(o+k,[])
theorem leaf_x:∀k:Nat,k<7→(⟨#[120]⟩:Str)++C7 (toString (k:Int))=opN (0+k)∧1+(C7 (toString (k:Int))).length≤4096:=by decide+kernel
theorem leaf_y:∀k:Nat,k<7→(⟨#[121]⟩:Str)++C7 (toString (k:Int))=opN (7+k)∧1+(C7 (toString (k:Int))).length≤4096:=by decide+kernel
theorem Dm:∀{n a k},k∈rng a n↔a≤k∧k<a+n:=by
 intro n
 induction n with
 | zero=>exact fun {a k}=>⟨nofun,fun h=>absurd h.2 (G4.mpr h.1)⟩
 | succ n ih=>
  intro a k
  refine C4.trans ((or_congr f8 ih).trans ?_)
  refine wg (G6 a n) ?_
  exact ⟨fun h=>h.elim (fun e=>by subst e;exact ⟨B2 _,N0 (L0 n)⟩) fun h=>⟨E8 h.1,h.2⟩,fun h=>(k9 h.1).imp Eq.symm fun l=>⟨l,h.2⟩⟩
section
variable {sc:Addr} {ns:List Int} {p p':PS} {x:HS}
theorem y_addL (L:Lw p x) {d:Nd} {n m:Nat} {K:KV} (hd:d.1<16∧d.2.length≤20) (e:FJ p d=some (p',n)) (k:∀x',Lw p' x'→Fr x x'→K (iN n) (H p' x')):Phi sc ns (m+6) 496 [.loc 2,.loc 19,BI d] (H p x) K:=
 y_added L.1 L.2.1 hd e fun x' r f l=>k x' ⟨r,l,L.2.2.fr f⟩ f
end
noncomputable def Fre (x:HS) (i:Nat) (o:PO):Prop:=x.v.f i=some o∧∀a∈x.as,i≠a∧i≠a+1
noncomputable def Ke (x x':HS):Prop:=∀i o,Fre x i o→Fre x' i o
noncomputable def Lk (k:Int) (p:PS) (x:HS):Prop:=Lw p x∧x.pos≤k
section
variable {p p':PS} {x x':HS} {i j:Nat} {o o':PO} {t:Hp} {k:Int}
theorem Rep.vv (h:Rep p x) {v:Hp} (hv:∀a∈x.as,∀o,(x.v.f a=some o→v.f a=some o)∧(x.v.f (a+1)=some o→v.f (a+1)=some o)):Rep p {x with v:=v}:=
 ⟨h.w7,h.w8,h.zm,h.zn,h.zk,fun ha hl=>have w:=h.la ha hl;⟨(hv _ (B9 ha) _).1 w.1,w.2⟩,fun a ha=>by
  have z:=h.a2 a ha
  have q:x.v.f (a+1)=some x.v[a+1]:=by exact wg (CM ..) (wg (B4 z) rfl)
  exact DF ((hv a ha _).2 q),h.sp,h.un,h.uk,fun hc=>have w:=h.u hc;⟨w.1,w.2.imp id fun x=>x.imp fun zz z=>⟨z.1,z.2.1,(hv _ (B9 z.1) _).2 z.2.2⟩⟩,fun e0 {c l} hc=>(h.u0 e0 hc).imp fun zz z=>⟨z.1,z.2.1,(hv _ (B9 z.1) _).2 z.2.2⟩,h.nd,h.kn⟩
theorem Lk.vv (h:Lk k p x) {v:Hp} (hv:∀a∈x.as,∀o,(x.v.f a=some o→v.f a=some o)∧(x.v.f (a+1)=some o→v.f (a+1)=some o)):Lk k p {x with v:=v}:=⟨⟨h.1.1.vv hv,h.1.2.1,⟨h.1.2.2.p,h.1.2.2.r,h.1.2.2.z⟩⟩,h.2⟩
theorem Lk.app (h:Lk k p x):Lk k p {x with v:=x.v++t}:=h.vv fun a zz o=>⟨BT,BT⟩
theorem Lk.put (h:Lk k p x) (f:Fre x i o):Lk k p {x with v:=x.v.put i o'}:=h.vv fun a ha o=>⟨fun q=>(Bb (f.2 a ha).1).trans q,fun q=>(Bb (f.2 a ha).2).trans q⟩
theorem Ke.of (f:Fr x x'):Ke x x':=fun i o h=>by
 refine BD f.a fun t e ht=>?_
 refine ⟨f.f i o h.2 h.1,fun a ha=>?_⟩
 rw[e] at ha
 refine (C5.mp ha).elim (h.2 a) fun m=>?_
 have z:=A9 (DF h.1) (ht a m)
 exact ⟨E4 z,E4 (M5 z)⟩
theorem Fre.app (f:Fre x i o):Fre {x with v:=x.v++t} i o:=⟨BT f.1,f.2⟩
theorem Fre.put (f:Fre x i o):Fre {x with v:=x.v.put i o'} i o':=⟨CG (DF f.1),f.2⟩
theorem Fre.ne (f:Fre x i o) (h:j≠i):Fre {x with v:=x.v.put j o'} i o:=⟨(Bb h).trans f.1,f.2⟩
theorem Fre.new (h:Rep p x):Fre {x with v:=x.v++o::t} x.v.length o:=⟨Bn,fun a ha=>have z:=h.a2 a ha;⟨J6 (Nat.lt_of_succ_lt z),J6 z⟩⟩
end
section
variable {sc:Addr} {ns:List Int} {p p':PS} {x:HS} {k:Int}
theorem Go (L:Lk k p x) {d:Nd} {n m:Nat} {K:KV} (hd:d.1<16∧d.2.length≤20) (e:FJ p d=some (p',n)) (kk:∀x',Lk k p' x'→Ke x x'→K (iN n) (H p' x')):Phi sc ns (m+6) 496 [.loc 2,.loc 19,BI d] (H p x) K:=
 y_addL L.1 hd e fun x' l f=>kk x' ⟨l,f.p▸L.2⟩ (.of f)
theorem DH (L:Lk k p x) {many m:Nat} {mi:Int} {K:KV} (h:k≤99) (em:mi=many) (hm:0<many) (kk:∀r x',r<many→Lk (k+1) p x'→Ke x x'→K (iN r) (H p x')):Phi sc ns (m+1) 489 [.loc 0,.int mi] (H p x) K:=
 y_next L.1.2.2 em hm fun r hr=>kk r {x with pos:=x.pos+1} hr ⟨⟨L.1.1.pos,L.1.2.1,L.1.2.2.next (N7 L.2 h)⟩,Z4 L.2 1⟩ fun zz zz f=>f
theorem y_leaf {i:Int} {m o c w:Nat} {v0 v1 v4:V} {x6:Option V} {r:Lc} {N:Lc→Hp→Prop} {R:KV} (hc:∀k:Nat,k<7→(⟨#[c]⟩:Str)++C7 (toString (k:Int))=opN (o+k)∧1+(C7 (toString (k:Int))).length≤4096) (ho:o+7≤16) (hw:w≤7) (e:addS (Fx o (rng 0 w)) p=some p') (L:Lk i p x)
  (k:∀x6 x',Lk i p' x'→N (some v0::some v1::some (.loc 2)::some (.loc 19)::some v4::some (.str ⟨#[c]⟩)::x6::r) (H p' x')):
  xloop (BE 6) (xseq (BX (BK (Phi sc ns (m+6) 496) [(BB 2),(BB 3),(BW [(BJ CB (BB 5) (BK opStr [(BB 6)]))])])) BF) tt N R ((rng 0 w).map iN) (some v0::some v1::some (.loc 2)::some (.loc 19)::some v4::some (.str ⟨#[c]⟩)::x6::r) (H p x):=by
 refine Fh (fun l Q=>∀x6 p x,(∀k∈l,k<7)→addS (Fx o l) p=some p'→Lk i p x→Q (some v0::some v1::some (.loc 2)::some (.loc 19)::some v4::some (.str ⟨#[c]⟩)::x6::r) (H p x)) (fun a l Z hZ x6 p x hk e L=>A0 trivial ?_) (fun x6 p x hk e L=>A0 trivial ?_) (rng 0 w) x6 p x (fun k hk=>A9 (Dm.mp hk).2 (by omega)) e L
 ·have hk7:=hk a (.head _)
  have hs:=hc a hk7
  refine bo_ e fun q e1 e2=>A0 ⟨C6 a,K4.mpr (U0 hk7 (by decide))⟩ (A0 hs.2 ?_)
  refine wg hs.1 ?_
  exact Go L ⟨A9 (i5 hk7 o) ho,E2 _⟩ e1 fun x' L' F=>hZ _ q.1 x' (fun k hk'=>hk k (.tail _ hk')) e2 L'
 ·cases e;exact k _ _ L
end
noncomputable def sideF (spots:List Nat) (pl sd:Nat) (p:PS):Option (PS×Nat):=
 bo ((spots.map (sd+·))[pl]?) fun k=>bo (FJ p (14,[k])) fun q=>FJ q.1 (15,(spots.map (sd+·)).set pl q.2)
noncomputable def Id (spots:List Nat) (pl:Nat) (l:List Nat):PS→Option (PS×List Nat):=I8 (fun p=>some (p,[])) (fun sd zz ih p=>bo (sideF spots pl sd p) fun q=>bo (ih q.1) fun t=>some (t.1,q.2::t.2)) l
section
variable {sc:Addr} {ns:List Int} {p p':PS} {x:HS} {k:Int}
theorem y_side {o1:PO} {m pl is ie ik n1 n2 kv:Nat} {kids es:List Nat} {p1:PS} {v0 v1 v4 v5 v6 v7:Option V} {r:Lc} {N:Lc→Hp→Prop} {R:KV} (zk:kids.length≤20) (n3:ik≠ie) (n1':ik≠is) (n2':ie≠is) (gk:kids[pl]?=some kv) (e1:FJ p (14,[kv])=some (p1,n1)) (e2:FJ p1 (15,kids.set pl n1)=some (p',n2)) (L:Lk k p x) (h1:Fre x is o1) (h2:Fre x ie (.list (es.map iN))) (h3:Fre x ik (.list (kids.map iN))) (hz:es.length≤20)
  (kk:∀x',Lk k p' x'→Fre x' is o1→Fre x' ie (.list ((es++[n2]).map iN))→N (v0::v1::some (.loc 2)::some (.loc 19)::v4::v5::v6::v7::some (.loc (ie+20))::some (iN pl)::some (.loc (ik+20))::r) (H p' x')):
  xseq (BO (BK (Phi sc ns (m+6) 496) [(BB 2),(BB 3),(BW [(BH (.str "f")),(BJ BN (BB 10) (BB 9))])]) (De setL (BB 10) (BB 9))) (xseq (BX (xbm 0 BZ (BB 8) [(BK (Phi sc ns (m+6) 496) [(BB 2),(BB 3),(BJ CB (BW [(BH (.str "w"))]) (BK CJ [(BB 10)]))])])) BF)
   (v0::v1::some (.loc 2)::some (.loc 19)::v4::v5::v6::v7::some (.loc (ie+20))::some (iN pl)::some (.loc (ik+20))::r) (H p x) N R:=by
 have zk2:(kids.map iN).length≤20:=by refine wg (A4 ..) ?_;exact zk
 have gk2:(kids.map iN)[pl]?=some (iN kv):=by refine wg G0 (wg gk ?_);rfl
 have zp:pl<(kids.map iN).length:=(B6.mp gk2).1
 have es2:(kids.map iN).set pl (iN n1)=(kids.set pl n1).map iN:=AT.symm
 have zk3:((kids.set pl n1).map iN).length≤20:=by refine wg (A4 ..) (wg O4 ?_);exact zk
 have ze:(es.map iN).length≤20:=by refine wg (A4 ..) ?_;exact hz
 refine pL_ h3.1 (A0 ⟨A3 zk2 (by decide),C6 _⟩ (so_ gk2 ?_))
 refine Go (d:=(14,[kv])) L ⟨A6 rfl,A6 rfl⟩ e1 fun x2 L2 k2=>?_
 refine pL_ (k2 _ _ h3).1 (A0 ⟨C6 _,zp,A3 zk2 (by decide)⟩ ?_)
 show xseq _ BF _ (H p1 {x2 with v:=x2.v.put ik (.list ((kids.map iN).set pl (iN n1)))}) _ _
 refine wg es2 ?_
 have h4:Fre {x2 with v:=x2.v.put ik (.list ((kids.set pl n1).map iN))} ik _:=(k2 _ _ h3).put
 have h5:=(k2 _ _ h2).ne (o':= .list ((kids.set pl n1).map iN)) n3
 refine A0 (pL_ h5.1 trivial) (pL_ h4.1 (A0 (A3 zk3 (by decide)) (A0 (show 1+_≤4096 from A3 (B7 zk3 1) (by decide)) ?_)))
 refine Go (d:=(15,kids.set pl n1)) (L2.put (k2 _ _ h3)) ⟨A6 rfl,by rw[A4] at zk3;exact zk3⟩ e2 fun x3 L3 k3=>?_
 refine pL_ (k3 _ _ h5).1 (A0 (A3 ze (by decide)) ?_)
 show N _ (H p' {x3 with v:=x3.v.put ie (.list (es.map iN++[iN n2]))})
 refine wg (show es.map iN++[iN n2]=(es++[n2]).map iN from (G5 (l₁:=es) (l₂:=[n2])).symm) ?_
 exact kk _ (L3.put (k3 _ _ h5)) ((k3 _ _ ((k2 _ _ h1).ne n1')).ne n2') (k3 _ _ h5).put
theorem y_sides {m pl is ie:Nat} {spots l es:List Nat} {v0 v1 v4 v6:Option V} {x5 x10:Option V} {r:Lc} {N:Lc→Hp→Prop} {R:KV} (zs:spots.length≤20) (ne:is≠ie) (e:Id spots pl l p=some (p',es)) (L:Lk k p x) (h1:Fre x is (.list (spots.map iN))) (h2:Fre x ie (.list [])) (hz:es.length≤20)
  (kk:∀x5 x10 x',Lk k p' x'→Fre x' ie (.list (es.map iN))→N (v0::v1::some (.loc 2)::some (.loc 19)::v4::x5::v6::some (.loc (is+20))::some (.loc (ie+20))::some (iN pl)::x10::r) (H p' x')):
  xloop (BE 5) (xseq (BO (Bv (Bf 1 [5] (Bi (BB 7)) (BE 0) (BY (BJ CB (BB 1) (BB 0))))) (BE 10)) (xseq (BO (BK (Phi sc ns (m+6) 496) [(BB 2),(BB 3),(BW [(BH (.str "f")),(BJ BN (BB 10) (BB 9))])]) (De setL (BB 10) (BB 9))) (xseq (BX (xbm 0 BZ (BB 8) [(BK (Phi sc ns (m+6) 496) [(BB 2),(BB 3),(BJ CB (BW [(BH (.str "w"))]) (BK CJ [(BB 10)]))])])) BF))) tt N R (l.map iN)
   (v0::v1::some (.loc 2)::some (.loc 19)::v4::x5::v6::some (.loc (is+20))::some (.loc (ie+20))::some (iN pl)::x10::r) (H p x):=by
 refine Fh (fun l Q=>∀x5 x10 p x es1 es2,Id spots pl l p=some (p',es2)→es1++es2=es→Lk k p x→Fre x is (.list (spots.map iN))→Fre x ie (.list (es1.map iN))→Q (v0::v1::some (.loc 2)::some (.loc 19)::v4::x5::v6::some (.loc (is+20))::some (.loc (ie+20))::some (iN pl)::x10::r) (H p x)) (fun sd l Z hZ x5 x10 p x es1 es2 e ee L h1 h2=>A0 trivial ?_) (fun x5 x10 p x es1 es2 e ee L h1 h2=>A0 trivial ?_) l x5 x10 p x [] es e rfl L h1 h2
 ·refine bo_ e fun q e1 e=>bo_ e fun t e5 e=>bo_ e1 fun kv e2 e1=>bo_ e1 fun q1 e3 e4=>?_
  cases e
  have zk:((spots.map (sd+·)).map iN).length≤20:=by refine wg (A4 ..) (wg (A4 ..) ?_);exact zs
  have ek:(spots.map iN).map (fun v=>iN (sd+Dv v))=(spots.map (sd+·)).map iN:=by refine wg G2 (wg G2 ?_);rfl
  have gk:((spots.map (sd+·)).map iN)[pl]?=some (iN kv):=by refine wg G0 (wg e2 ?_);rfl
  have zp:pl<((spots.map (sd+·)).map iN).length:=(B6.mp gk).1
  refine pS_ h1.1 (Dq (f:=fun v=>iN (sd+Dv v)) (by refine wg (A4 ..) ?_;exact up zs rfl) h1.1 (fun v hv Z z=>?_) ?_)
  ·refine BD (B5.mp hv) fun i zz hh2=>?_;obtain rfl:=hh2
   exact z
  refine wg ek ?_
  have Lb:Lk k p {x with v:=x.v++[.list ((spots.map (sd+·)).map iN)]}:=L.app
  have h3:Fre {x with v:=x.v++[.list ((spots.map (sd+·)).map iN)]} x.v.length (.list ((spots.map (sd+·)).map iN)):=Fre.new L.1.1
  have n1':=J6 (DF h1.1)
  have n3:=J6 (DF h2.1)
  rw[A4] at zk
  show xseq _ _ (v0::v1::some (.loc 2)::some (.loc 19)::v4::some (iN sd)::v6::some (.loc (is+20))::some (.loc (ie+20))::some (iN pl)::some (.loc (x.v.length+20))::r) (H p {x with v:=x.v++[.list ((spots.map (sd+·)).map iN)]}) _ _
  exact y_side (is:=is) zk n3 n1' ne.symm e2 e3 e4 Lb h1.app h2.app h3 (by rw[←ee,A7] at hz;exact A3 (C0 _ _) hz) fun x' L' f1 f2=>hZ _ _ _ x' _ _ e5 (by refine wg (E5 ..) ?_;exact ee) L' f1 f2
 ·cases e
  rw[D8] at ee
  exact kk _ _ _ L (ee▸h2)
end
noncomputable def Ek (l:List (Nat×Nat)):PS→Option PS:=I8 some (fun a zz ih p=>bo (HY p a.1 a.2) ih) l
noncomputable def toldF (w:Nat) (p:PS) (way t u:Nat):Option (PS×List (Nat×Nat)):=match way with
 | 0=>some (p,[(t,w+t)])
 | 1=>bo (FJ p (14,[0])) fun a=>bo (FJ a.1 (14,[w])) fun b=>some (b.1,[(0+t,a.2),(w+t,b.2)])
 | _=>some (p,[(t,w+u)])
theorem sett_nd:∀{f p p'},EK f p=some p'→p'.nd=p.nd:=by
 intro f
 induction f with
 | zero=>exact fun h=>nomatch h
 | succ f ih=>
  intro p p' h
  have h:(Y0 (some p) (fun n=>bo (Fw {p with wt:=p.wt.dropLast} n) (EK f)) p.wt.getLast?:Option PS)=some p':=h
  cases e:p.wt.getLast? with
  | none=>rw[e] at h;cases h;rfl
  | some n=>rw[e] at h;exact bo_ h fun q e1 e2=>(ih e2).trans (Eq.trans (look_nd e1) rfl)
section
variable {sc:Addr} {ns:List Int} {p p':PS} {x:HS} {k:Int}
theorem Lk.fr (L:Lk k p x) {x':HS} (r:Rep p' x') (f:Fr x x') (e:p'.nd=p.nd) (l:x'.ln=x.ln):Lk k p' x':=⟨⟨r,by refine wg l (wg e ?_);exact L.1.2.1,L.1.2.2.fr f⟩,f.p▸L.2⟩
theorem told_b {m:Nat} {ps:List (Nat×Nat)} {v0 v2 v3 v4 v5 x7 x8:Option V} {K:KV} (L:Lk k p x) (e:bo (Ek ps p) (EK 60)=some p') (kk:∀x',Lk k p' x'→Ke x x'→K (.lst (ps.map By)) (H p' x')):
  xseq (Ck (Bi (BB 6)) (Bw [(BE 7),(BE 8)]) (xseq (BX (BV 478 (Phi sc ns (m+5) 416) (BB 1) [(BB 7),(BB 8),(BW [(BH (.str "told")),(BH (.str "t"))])])) BF)) (xseq (BX (BV 478 (Phi sc ns (m+5) 430) (BB 1) [])) (xseq (Ba (BB 6)) BF))
   [v0,some (.loc 2),v2,v3,v4,v5,some (.lst (ps.map By)),x7,x8] (H p x) (fun zz hp=>K .none hp) K:=by
 refine bo_ e fun p2 e1 e2=>?_
 refine Fh (fun l Q=>∀x7 x8 p x1,Ek l p=some p2→Lk k p x1→Ke x x1→Q [v0,some (.loc 2),v2,v3,v4,v5,some (.lst (ps.map By)),x7,x8] (H p x1)) (fun a l Z hZ x7 x8 p x1 e L kx=>A0 trivial (A0 rfl ?_)) (fun x7 x8 p x1 e L kx=>A0 trivial ?_) ps x7 x8 p x e1 L fun zz zz f=>f
 ·refine bo_ e fun p3 e3 e4=>A0 (at_ rfl rfl trivial) ?_
  show Phi sc ns (m+5) 416 [.loc 2,iN a.1,iN a.2,_] (H p x1) _
  exact y_merge L.1.1 e3 fun x' r R f a l=>hZ _ _ p3 x' e4 (L.fr R f (join_nd e3) l) fun i o h=>Ke.of f i o (kx i o h)
 ·cases e
  refine A0 (at_ rfl rfl trivial) ?_
  show Phi sc ns (m+5) 430 [.loc 2] (H _ x1) fun v hp=>K (.lst (ps.map By)) hp
  exact y_settle L.1.1 e2 fun x' R f a l=>kk x' (L.fr R f (sett_nd e2) l) fun i o h=>Ke.of f i o (kx i o h)
theorem y_told {m w:Nat} {W:PS×List (Nat×Nat)→PS→Prop} {K:KV} (L:Lk k p x) (hk:k≤90) (hw:5≤w∧w≤7) (hT:∀way t u,way<3→1≤t→t<w→u<w→∃q p',toldF w p way t u=some q∧bo (Ek q.2 q.1) (EK 60)=some p'∧W q p')
  (kk:∀q p' x',W q p'→Lk (k+3) p' x'→Ke x x'→K (.lst (q.2.map By)) (H p' x')):Phi sc ns (m+7) 540 [.loc 0,.loc 2,.loc 19,iN w] (H p x) K:=by
 refine A0 rfl ?_
 show Ej (Phi sc ns (m+6)) _ _ _ _
 unfold Ej
 refine CW (fun Z=>∀way t x2,way<3→1≤t→t<w→Lk (k+1+1) p x2→Ke x x2→Z [some (.loc 0),some (.loc 2),some (.loc 19),some (iN w),some (iN way),some (iN t),none,none,none] (H p x2)) (fun Z hZ=>?_) (fun way t x2 hway h1 h2 L2 k2=>?_)
 ·refine DH (many:=3) L (N7 hk (by decide)) rfl (by decide) fun way x1 hway L1 k1=>?_
  refine DH (many:=w - 1) L1 (N7 (Z4 hk 1) (by decide)) (w1 hw) (w0 hw) fun t x2 ht L2 k2=>A0 rfl ?_
  exact hZ way (1+t) x2 hway (C0 1 t) (t5 ht) L2 fun i o h=>k2 i o (k1 i o h)
 refine CW (fun Z=>∀q p' x3,bo (Ek q.2 q.1) (EK 60)=some p'→W q p'→Lk (k+3) q.1 x3→Ke x x3→Z [some (.loc 0),some (.loc 2),some (.loc 19),some (iN w),some (iN way),some (iN t),some (.lst (q.2.map By)),none,none] (H q.1 x3)) (fun Z hZ=>?_) (fun q p' x3 e2 w L k3=>told_b L e2 fun x' L' k4=>kk q p' x' w L' fun i o h=>k4 i o (k3 i o h))
 have up:∀{p x},Lk (k+1+1) p x→Lk (k+3) p x:=fun L=>⟨L.1,N7 L.2 (by refine wg (j0 ..) ?_;exact Int.add_le_add_left (by decide) k)⟩
 refine A0 ⟨rfl,rfl⟩ (A0 (fun q=>?_) fun q=>?_)
 ·have e:way=0:=of_decide_eq_true ((FE (j:=0)).symm.trans q)
  subst e
  refine CE (hT 0 t t (by decide) h1 h2 h2) fun q p' e1 e2 hw'=>?_
  cases e1
  exact hZ _ p' x2 e2 hw' (up L2) k2
 ·refine A0 ⟨rfl,rfl⟩ (A0 (fun q2=>?_) fun q2=>?_)
  ·have e:way=1:=of_decide_eq_true ((FE (j:=1)).symm.trans q2)
   subst e
   refine CE (hT 1 t t (by decide) h1 h2 h2) fun q p' e1 e2 hw'=>?_
   refine bo_ e1 fun a e3 e1=>bo_ e1 fun b e4 e1=>?_
   cases e1
   refine A0 trivial ?_
   refine Go (d:=(14,[0])) L2 ⟨A6 rfl,A6 rfl⟩ e3 fun x3 L3 k3=>A0 (E2 _) (A0 trivial ?_)
   refine Go (d:=(14,[w])) L3 ⟨A6 rfl,A6 rfl⟩ e4 fun x4 L4 k4=>A0 (A6 rfl) (A0 trivial ?_)
   exact hZ _ p' x4 e2 hw' (up L4) fun i o h=>k4 i o (k3 i o (k2 i o h))
  ·have e:way=2:=by
    have a:¬way=0:=of_decide_eq_false ((FE (j:=0)).symm.trans q)
    have b:¬way=1:=of_decide_eq_false ((FE (j:=1)).symm.trans q2)
    exact L9 (E6 hway) (P3 (Nat.pos_of_ne_zero a) (N6 b))
   subst e
   refine DH (many:=w) L2 (N7 (Z4 (Z4 hk 1) 1) (by decide)) rfl (Y8 hw.1) fun u x3 hu L3 k3=>?_
   refine CE (hT 2 t u (by decide) h1 h2 hu) fun q p' e1 e2 hw'=>?_
   cases e1
   exact hZ _ p' x3 e2 hw' ⟨L3.1,N7 L3.2 (by refine wg (j0 ..) (wg (j0 ..) ?_);exact Int.add_le_add_left (by decide) k)⟩ fun i o h=>k3 i o (k2 i o h)
end
noncomputable def GC (g:Nd→Nat) (l:List Nd):Nat:=I8 0 (fun x zz ih=>w9 (g x) ih) l
noncomputable def FN (g:Nat→Nat→Nat) (a:List Nat):List Nat→Nat:=I8 (fun zz=>1) (fun x zz ih b=>I8 1 (fun y r zz=>Nat.mul (g x y) (ih r)) b) a
noncomputable def addR (g:Nat→Nat→Nat) (a:List Nat):List Nat→Nat:=I8 (fun zz=>0) (fun x zz ih b=>I8 0 (fun y r zz=>w9 (g x y) (ih r)) b) a
noncomputable def Ie (L:Nat→List Nd) (n:Nat):Nat→Nat→Nat:=Aq (fun zz zz=>1000) (fun zz ih c d=>c9 (GC (fun one=>GC (fun other=>I6 0 (FN ih one.2 other.2) (sameN one other)) (L d)) (L c))) n
noncomputable def wzQ (L:Nat→List Nd) (n:Nat):Nat→Nat→Nat:=Aq (fun zz zz=>0) (fun zz ih c d=>c9 (GC (fun one=>GC (fun other=>I6 0 (c9 (addR ih one.2 other.2)) (sameN one other)) (L d)) (L c))) n
theorem sum_eq {f g:Nd→Nat}:∀{l:List Nd},(∀x∈l,f x=g x)→(l.map f).sum=GC g l:=fun {l}=>I8 (fun zz=>rfl) (fun x l ih h=>(Au).trans (congr (congrArg w9 (h x (.head _))) (ih fun y m=>h y (.tail _ m)))) l
theorem Ig {g:Nd→Nat} {x:Nd}:∀{l:List Nd},x∈l→g x≤GC g l:=fun {l}=>I8 (fun h=>(nomatch h)) (fun y l ih h=>(C4.mp h).elim (fun e=>e▸C0 _ _) fun m=>A3 (ih m) (D5 _ _)) l
theorem prod_eq {f:Nat×Nat→Nat} {g:Nat→Nat→Nat}:∀{a b:List Nat},(∀p∈a.zip b,f p=g p.1 p.2)→DY ((a.zip b).map f)=FN g a b:=by
 intro a
 induction a with
 | nil=>exact fun zz=>rfl
 | cons x a ih=>
  intro b h
  cases b with
  | nil=>rfl
  | cons y b=>exact show Nat.mul (f (x,y)) (DY ((a.zip b).map f))=Nat.mul (g x y) (FN g a b) from congr (congrArg Nat.mul (h (x,y) (.head _))) (ih fun p m=>h p (.tail _ m))
theorem le_prod {g:Nat→Nat→Nat} (hg:∀x y,1≤g x y):∀{a b:List Nat},1≤FN g a b∧∀p∈a.zip b,g p.1 p.2≤FN g a b:=by
 intro a
 induction a with
 | nil=>exact ⟨B2 1,nofun⟩
 | cons x a ih=>
  intro b
  cases b with
  | nil=>exact ⟨B2 1,nofun⟩
  | cons y b=>exact ⟨Nat.mul_le_mul (hg x y) (ih (b:=b)).1,fun p m=>(C4.mp m).elim (fun e=>e▸Nat.le_mul_of_pos_right (g x y) (ih (b:=b)).1) fun m=>A3 ((ih (b:=b)).2 p m) (p7 _ (hg x y))⟩
theorem cntQ_pos {L:Nat→List Nd} {n x y:Nat}:1≤Ie L n x y:=by cases n <;> exact D5 1 _
noncomputable def CR {α:Type} (l:List α) (p:α→Bool):Bool:=I8 true (fun x zz ih=>an (p x) ih) l
theorem lAll_ {α:Type} {p:α→Bool}:∀{l:List α},CR l p=true→∀x∈l,p x=true:=fun {l}=>I8 (fun zz=>nofun) (fun x l ih h y m=>(C4.mp m).elim (fun e=>e▸(an_ h).1) (ih (an_ h).2 y)) l
noncomputable def neB {α:Type} (l:List α):Bool:=I8 false (fun zz zz zz=>true) l
noncomputable def tabB (G:Nat→List Nd) (D:List Nat):Bool:=CR D fun c=>an (K0 c 19) (an (K0 (G c).length 20) (an (neB (G c)) (CR (G c) fun d=>an (ndB d) (CR d.2 fun k=>FI k D))))
structure Tab (G:Nat→List Nd) (D:List Nat) (c:Nat):Prop where
 i:c≤19
 z:(G c).length≤20
 n:(!(G c).isEmpty)=true
 b:∀d∈G c,ndB d=true
 k:∀d∈G c,∀k∈d.2,k∈D
section
variable {G L:Nat→List Nd} {D:List Nat}
theorem tab_ (T:tabB G D=true):∀c∈D,Tab G D c:=fun c h=>by
 refine an2 (an_ (lAll_ T c h)) fun q1 q=>?_
 refine an2 (an_ q) fun q2 q=>?_
 refine an2 (an_ q) fun q3 q=>?_
 have q:=fun d m=>an_ (lAll_ q d m)
 refine ⟨A6 q1,A6 q2,?_,fun d m=>(q d m).1,fun d m k hk=>Ci.mp (lAll_ (q d m).2 k hk)⟩
 cases e:G c with
 | nil=>rw[e] at q3;cases q3
 | cons _ _=>rfl
theorem Tab.perm {c:Nat} (T:Tab G D c) (p:(L c).Perm (G c)):Tab L D c:=⟨T.i,p.length_eq▸T.z,p.isEmpty_eq▸T.n,fun d m=>T.b d (p.mem_iff.mp m),fun d m=>T.k d (p.mem_iff.mp m)⟩
theorem Hb {g:Nd→Nat} {l l':List Nd} (p:l.Perm l'):GC g l=GC g l':=by
 induction p with
 | nil=>rfl
 | cons x _ ih=>exact congrArg (w9 (g x)) ih
 | swap x y l=>exact Nat.add_left_comm _ _ _
 | trans _ _ h1 h2=>exact h1.trans h2
theorem Hc {f g:Nd→Nat}:∀{l:List Nd},(∀x∈l,f x=g x)→GC f l=GC g l:=fun {l}=>I8 (fun zz=>rfl) (fun x l ih h=>show w9 (f x) (GC f l)=w9 (g x) (GC g l) from congr (congrArg w9 (h x (.head _))) (ih fun y m=>h y (.tail _ m))) l
theorem prodR_same {f g:Nat→Nat→Nat}:∀{a b:List Nat},(∀p∈a.zip b,f p.1 p.2=g p.1 p.2)→FN f a b=FN g a b:=by
 intro a
 induction a with
 | nil=>exact fun zz=>rfl
 | cons x a ih=>
  intro b h
  cases b with
  | nil=>rfl
  | cons y b=>exact show Nat.mul (f x y) (FN f a b)=Nat.mul (g x y) (FN g a b) from congr (congrArg Nat.mul (h (x,y) (.head _))) (ih fun p m=>h p (.tail _ m))
theorem cq_perm (T:∀c∈D,Tab G D c) (P:∀c∈D,(L c).Perm (G c)):∀n {c d},c∈D→d∈D→Ie L n c d=Ie G n c d:=by
 intro n
 induction n with
 | zero=>exact fun zz zz=>rfl
 | succ n ih=>
  intro c d hc hd
  refine congrArg c9 ((Hb (P c hc)).trans (Hc fun one m1=>(Hb (P d hd)).trans (Hc fun other m2=>?_)))
  cases sameN one other with
  | false=>rfl
  | true=>exact prodR_same fun p hp=>ih ((T c hc).k one m1 _ (Q4 hp).1) ((T d hd).k other m2 _ (Q4 hp).2)
theorem cq_ok (T:∀c∈D,Tab G D c):∀n {c d},c∈D→d∈D→Ie G n c d≤59→cfB G n c d=true∧cnt G n c d=Ie G n c d:=by
 intro n
 induction n with
 | zero=>exact fun zz zz h=>absurd (show 1000≤59 from h) (by decide)
 | succ n ih=>
  intro c d hc hd h
  have A:=T c hc
  have B:=T d hd
  have cell:∀one∈G c,∀other∈G d,sameN one other=true→∀p∈one.2.zip other.2,cfB G n p.1 p.2=true∧cnt G n p.1 p.2=Ie G n p.1 p.2:=fun one m1 other m2 e p hp=>by
   refine ih (A.k one m1 _ (Q4 hp).1) (B.k other m2 _ (Q4 hp).2) (A3 ?_ (E8 h))
   refine A3 ((le_prod (g:=Ie G n) fun zz zz=>cntQ_pos).2 p hp) (A3 ?_ (Ig m1))
   refine A3 ?_ (Ig m2)
   refine wg e ?_;exact B2 _
  have ec:cnt G (n+1) c d=Ie G (n+1) c d:=congrArg c9 (sum_eq fun one m1=>sum_eq fun other m2=>by
   cases e:sameN one other with
   | false=>rfl
   | true=>exact prod_eq fun p hp=>(cell one m1 other m2 e p hp).2)
  refine ⟨?_,ec⟩
  show ((K0 c 19&&K0 d 19)&&(K0 (G c).length 20&&K0 (G d).length 20)&&((G c).all ndB&&(G d).all ndB)&&(!(G c).isEmpty&& !(G d).isEmpty)&&K0 (cnt G (n+1) c d) 59&&(G c).all fun one=>(G d).all fun other=> !sameN one other || (one.2.zip other.2).all fun p=>cfB G n p.1 p.2)=true
  refine wg (M8 A.i) (wg (M8 B.i) (wg (M8 A.z) (wg (M8 B.z) (wg (E0.mpr A.b) (wg (E0.mpr B.b) (wg A.n (wg B.n (wg ec (wg (M8 h) ?_)))))))))
  refine E0.mpr fun one m1=>E0.mpr fun other m2=>?_
  cases e:sameN one other with
  | false=>rfl
  | true=>exact E0.mpr fun p hp=>(cell one m1 other m2 e p hp).1
theorem vz_wz {L:Nat→List Nd}:∀n {c d},∀s∈shp L n c d,vz n s≤wzQ L n c d:=by
 intro n
 induction n with
 | zero=>exact fun s h=>nomatch h
 | succ n ih=>
  intro c d s hs
  rcases mem_shp.mp hs with rfl | ⟨one,m1,other,m2,e,ks,a,rfl⟩
  ·exact D5 1 _
  ·have hk:∀{ks:List V} {x y:List Nat},EY ks ((x.zip y).map fun p=>shp L n p.1 p.2)→(ks.map (vz n)).sum≤addR (wzQ L n) x y:=by
    intro ks
    induction ks with
    | nil=>exact fun zz=>E2 _
    | cons k ks ih2=>
     intro x y a
     cases x with
     | nil=>refine CU a fun zz zz e zz=>?_;clear a;cases e
     | cons i x=>cases y with
      | nil=>refine CU a fun zz zz e zz=>?_;clear a;cases e
      | cons j y=>
       have q:=Dg.mp a
       refine wg Q2 (wg Au ?_)
       exact U8 (ih k q.1) (ih2 q.2)
   refine E7 (A3 ?_ (Ig m1))
   refine A3 ?_ (Ig m2)
   refine wg e ?_
   exact B1 (hk a)
end
noncomputable def nx (t:List (List Nd)) (c:Nat):List Nd:=Y0 [] (fun x=>x) (nth t c)
noncomputable def eqD (a:List Nd):List Nd→Bool:=I8 (fun b=>I8 true (fun zz zz zz=>false) b) (fun x zz ih b=>I8 false (fun y s zz=>an (Cg x y) (ih s)) b) a
noncomputable def pmB (a b:List Nd):Bool:=I6 (eqD a b.reverse) true (eqD a b)
noncomputable def sufs (l:List Nat):List (List Nat):=I8 [] (fun x r ih=>(x::r)::ih) l
noncomputable def sufD (gt:List (List Nd)):List (List Nat):=gt.flatMap fun ds=>ds.flatMap fun d=>sufs d.2
noncomputable def sufN (gt:List (List Nd)):Nat:=I8 0 (fun ds zz ih=>w9 (I8 0 (fun d zz ih=>w9 d.2.length ih) ds) ih) gt
noncomputable def okC (hm:List Nat) (fs:List (Nd×Nat)) (gt:List (List Nd)) (N:Nat):Bool:=an (K0 (sufN gt) 19) (an (tabB (nx gt) hm) (CR hm fun c=>an (Nat.blt c N) (pmB (DS hm fs c) (nx gt c))))
noncomputable def okA (p:PS) (hm:List Nat) (gt:List (List Nd)) (a b:Nat):Option Unit:=bo (Bp p.ab 20 a) fun ca=>bo (Bp p.ab 20 b) fun cb=>bo (nth hm a) fun ha=>bo (nth hm b) fun hb=>
 gd (an (H7 ha ca) (an (H7 hb cb) (an (K0 (Ie (nx gt) 5 ca cb) 59) (K0 (wzQ (nx gt) 5 ca cb) 60)))) (some ())
noncomputable def tabF (p:PS) (hm:List Nat):Option (List (List Nd)):=IZ (fun c=>I6 (some []) (Ia p c) (FI c hm)) (rng 0 p.nd.length)
noncomputable def okD (p:PS) (e0 e1:Nat) (ps:List (Nat×Nat)):Option Unit:=bo (gd (K0 ps.length 100) (Ha p.nd 60 ((0,0)::ps) (rng 0 p.nd.length) [])) fun q=>bo (tabF p q.1) fun gt=>gd (okC q.1 q.2 gt p.nd.length) (bo (okA p q.1 gt e0 e1) fun zz=>okA p q.1 gt e1 e0)
theorem eqD_:∀{a b:List Nd},eqD a b=true→a=b:=by
 intro a
 induction a with
 | nil=>intro b h;cases b with
  | nil=>rfl
  | cons _ _=>cases h
 | cons x a ih=>
  intro b h
  cases b with
  | nil=>cases h
  | cons y b=>
   have h:=an_ (show an (Cg x y) (eqD a b)=true from h)
   exact wg (Ch.mp h.1) (wg (ih h.2) rfl)
theorem pm_ {a b:List Nd} (h:pmB a b=true):a.Perm b:=by
 unfold pmB at h
 cases e:eqD a b with
 | true=>rw[eqD_ e]
 | false=>rw[e] at h;refine wg (eqD_ h) ?_;exact List.reverse_perm b
theorem sufs_len:∀{l:List Nat},(sufs l).length=l.length:=fun {l}=>I8 rfl (fun zz zz ih=>congrArg (·+1) ih) l
theorem suf_len:∀{gt:List (List Nd)},(sufD gt).length=sufN gt:=by
 intro gt
 induction gt with
 | nil=>rfl
 | cons ds gt ih=>
  have e:(ds.flatMap fun d=>sufs d.2).length=(I8 0 (fun d zz ih=>w9 d.2.length ih) ds:Nat):=by
   induction ds with
   | nil=>rfl
   | cons d ds ih=>refine wg M6 (wg A7 (wg ih (wg sufs_len ?_)));rfl
  show (AS _ _).length=w9 _ (sufN gt)
  refine wg M6 (wg A7 (wg e (wh ih ?_)));rfl
theorem suf_tail:∀{l xs:List Nat},xs∈sufs l→xs.tail≠[]→xs.tail∈sufs l:=by
 intro l
 induction l with
 | nil=>exact fun h=>nomatch h
 | cons x l ih=>
  intro xs h ne
  rcases C4.mp h with rfl | m
  ·cases l with
   | nil=>exact absurd rfl ne
   | cons y l=>exact .tail _ (.head _)
  ·exact .tail _ (ih m ne)
theorem suf_self {l:List Nat} (h:l≠[]):l∈sufs l:=by
 cases l with
 | nil=>exact absurd rfl h
 | cons x l=>exact .head _
theorem rng_get {n:Nat}:∀{a i:Nat},i<n→(rng a n)[i]?=some (a+i):=by
 induction n with
 | zero=>exact fun h=>nomatch h
 | succ n ih=>
  intro a i h
  cases i with
  | zero=>rfl
  | succ i=>exact (ih (a:=a+1) (O3 h)).trans (by refine wg (N5 ..) ?_;rfl)
structure Com (p:PS) (hm:List Nat) (fs:List (Nd×Nat)) (gt:List (List Nd)):Prop where
 n:∀c∈hm,Ia p c=some (nx gt c)
 g:∀c∈hm,Tab (nx gt) hm c
 p:∀c∈hm,(DS hm fs c).Perm (nx gt c)
 z:(sufD gt).length≤19
theorem com_ {p:PS} {hm:List Nat} {fs:List (Nd×Nat)} {gt:List (List Nd)} (e:tabF p hm=some gt) (h:okC hm fs gt p.nd.length=true):Com p hm fs gt:=by
 refine an2 (an_ h) fun h1 h=>?_
 refine an2 (an_ h) fun h2 h=>?_
 have h:=fun c hc=>an_ (lAll_ h c hc)
 refine an2 (Cu e []) fun e1 e2=>?_
 refine ⟨fun c hc=>?_,tab_ h2,fun c hc=>pm_ (h c hc).2,suf_len▸A6 h1⟩
 have z:c<p.nd.length:=A6 (h c hc).1
 have g:=rng_get (a:=0) z
 rw[I0] at g
 refine ex1 (e2 c (B9 g)) fun y hy=>?_
 have e3:nx gt c=y:=by
  unfold nx
  refine wg Dl (wg e1 (wg G0 (wg g ?_)))
  show (I6 (some []) (Ia p c) (FI c hm):Option (List Nd)).getD []=y
  refine wg hy ?_;rfl
 refine wg e3 ?_
 rw[Ci.mpr hc] at hy
 exact hy
theorem all2_same:∀{ks:List V} {l:List (Nat×Nat)} {f g:Nat×Nat→List V},(∀p∈l,∀s,s∈f p↔s∈g p)→(EY ks (l.map f)↔EY ks (l.map g)):=by
 intro ks
 induction ks with
 | nil=>exact fun {l f g} _=>⟨fun h=>by refine wg (V7.mp h) ?_;rfl,fun h=>by refine wg (V7.mp h) ?_;rfl⟩
 | cons k ks ih=>
  intro l f g h
  cases l with
  | nil=>exact f8
  | cons p l=>
   exact Dg.trans ((and_congr (h p (.head _) k) (ih fun q m=>h q (.tail _ m))).trans Dg.symm)
theorem Ef {a b c d:Prop} (h:a↔b) (k:a→(c↔d)):(a∧c)↔(b∧d):=⟨fun q=>⟨h.mp q.1,(k q.1).mp q.2⟩,fun q=>have w:=h.mpr q.1;⟨w,(k w).mpr q.2⟩⟩
theorem shp_same {G L:Nat→List Nd} {D:List Nat} (T:∀c∈D,Tab G D c) (P:∀c∈D,(L c).Perm (G c)):∀n {c d},c∈D→d∈D→∀s,s∈shp G n c d↔s∈shp L n c d:=by
 intro n
 induction n with
 | zero=>exact fun zz zz zz=>f8
 | succ n ih=>
  intro c d hc hd s
  refine mem_shp.trans (Iff.trans (or_congr f8 (exists_congr fun one=>?_)) mem_shp.symm)
  refine Ef (P c hc).mem_iff.symm fun m1=>exists_congr fun other=>Ef (P d hd).mem_iff.symm fun m2=>and_congr_right fun zz=>exists_congr fun ks=>and_congr_left fun zz=>?_
  exact all2_same fun p hp=>ih ((T c hc).k one m1 _ (Q4 hp).1) ((T d hd).k other m2 _ (Q4 hp).2)
section
variable {sc:Addr} {ns:List Int} {p:PS} {x:HS} {k:Int}
theorem pq_same {G L:Nat→List Nd} {n a b most:Nat} (h:∀s,s∈shp G n a b↔s∈shp L n a b) {v:V}:Pq G n a b most v↔Pq L n a b most v:=exists_congr fun s=>and_congr_left fun zz=>h s
theorem lots_len {nd:List Nd}:∀{f ws hm0 fs0 hm fs},Ha nd f ws hm0 fs0=some (hm,fs)→hm.length=hm0.length:=by
 intro f
 induction f with
 | zero=>exact fun h=>nomatch h
 | succ f ih=>
  intro ws hm0 fs0 hm fs h
  cases ws with
  | nil=>cases h;rfl
  | cons w r=>exact bo_ h fun hm1 e1 h=>bo_ h fun q e2 h=>(ih h).trans (wish_len e1)
theorem y_pair {hm:List Nat} {fs:List (Nd×Nat)} {gt:List (List Nd)} {ps:List (Nat×Nat)} {a b i j most m:Nat} {mi:Int} {y z:V} {K:KV} (L:Lk k p x) (e1:Ha p.nd 60 ((0,0)::ps) (rng 0 p.nd.length) []=some (hm,fs)) (C:Com p hm fs gt) (e2:okA p hm gt a b=some ()) (zp:ps.length≤100) (hmi:mi=most) (hmost:most≤10) (hi:Fre x i (.inst 264 (j+20))) (hj:Fre x j (.ns 264 [.loc 2,y,z]))
  (kk:∀l x',Lk k p x'→(∀q o,q≠j→Fre x q o→Fre x' q o)→(∃y z,Fre x' j (.ns 264 [.loc 2,y,z]))→V.cmp 8 (.lst l)=true→(∀{K':KV},K' (.lst l) (H p x')→Phi sc ns (m+60) 535 [.loc 19,.lst (ps.map By),iN a,iN b,.int mi] (H p x') K')→K (.lst l) (H p x')):Phi sc ns (m+60) 242 [.loc (i+20),iN a,iN b,.int mi] (H p x) K:=by
 refine bo_ e2 fun ca ea e2=>bo_ e2 fun cb eb e2=>CI e2 fun ha fa e2=>CI e2 fun hb fb e2=>?_
 refine an2 (CT e2) fun q zz=>?_
 refine an2 (an_ q) fun q1 q=>?_
 refine an2 (an_ q) fun q2 q=>?_
 refine an2 (an_ q) fun q3 q5=>?_
 cases F6 q1
 cases F6 q2
 have da:=B9 fa
 have db:=B9 fb
 have cG:=(cq_ok C.g 5 da db (A6 q3)).1
 have cL:=(cq_ok (fun c hc=>(C.g c hc).perm (C.p c hc)) 5 da db (cq_perm C.g C.p 5 da db▸A6 q3)).1
 have sS:=shp_same C.g C.p 5 da db
 have low:∀{hp':Hp},Agr [j+20] (H p x) hp'→∃x',hp'=H p x'∧Lk k p x'∧(∀q o,q≠j→Fre x q o→Fre x' q o)∧∀a∈x'.as,j≠a∧j≠a+1:=fun {hp'} A=>by
  refine Bo (H_agr L.1.1 hj.2 A) fun v e zz old=>?_
  exact ⟨_,e,L.vv fun a ha o=>⟨old a o fun w=>(hj.2 a ha).1 w.symm,old (a+1) o fun w=>(hj.2 a ha).2 w.symm⟩,fun q o hq f=>⟨old q o hq f.1,f.2⟩,hj.2⟩
 refine y_common (G:=nx gt) (Suf:=sufD gt) (dom:=(·∈hm)) (n:=5) (ca:=ca) (cb:=cb) (most:=most) (m:=m+14) (an:=j+20) (hb:=2) C.z (fun xs hx ht=>?_) (fun c hc nd hnd=>⟨(C.g c hc).k nd hnd,fun hne=>?_⟩) cG (by decide) da db hmi hmost hi.1 hj.1 (fun {hp'} A=>?_) fun Ls R hp' h1 h2 h3 A hn=>?_
 ·refine BD (H6.mp hx) fun ds h1 hx=>?_
  refine BD (H6.mp hx) fun d h2 hx=>?_
  exact H6.mpr ⟨ds,h1,H6.mpr ⟨d,h2,suf_tail hx ht⟩⟩
 ·unfold nx at hnd
  rw[Dl] at hnd
  cases e:gt[c]? with
  | none=>rw[e] at hnd;cases hnd
  | some ds=>
   rw[e] at hnd
   exact H6.mpr ⟨ds,B9 e,H6.mpr ⟨nd,hnd,suf_self hne⟩⟩
 ·refine Bo (low A) fun x' hh1 L' zz=>?_;obtain rfl:=hh1
  refine ⟨at_ rfl rfl trivial,fun {c m} hc h5 K kk=>?_,fun {K} kk=>EI (m:=m+57) L'.1.1 ea kk,fun {K} kk=>EI (m:=m+57) L'.1.1 eb kk⟩
  obtain ⟨m',rfl⟩:∃w,m=w+5:=⟨m - 5,(Q5 h5).symm⟩
  exact y_nodes_of L'.1.1 (C.n c hc) kk
 ·refine xa14 (low A) fun x' hh1 L' kx ka=>?_;obtain rfl:=hh1
  have pa:∀v∈R,Pa 5 v:=fun v hv=>(((h2 v).mp (h3.p.mem_iff.mp hv)).pa cG (A3 hmost (by decide))).1
  refine kk _ x' L' kx (hn.imp fun y h=>h.imp fun z h=>⟨h,ka⟩) ?_ fun {K'} k'=>?_
  ·refine E3.mpr ⟨rfl,E0.mpr fun v hv=>?_⟩
   exact V.ok_up (b:=false) (c:=true) (fun e=>(nomatch e)) 5 v (pa v (AG.mp hv).1).tm.key 7 (by decide)
  ·refine y_due (L:=DS hm fs) (n:=5) (homes:=hm) (ca:=ca) (cb:=cb) (most:=most) (m:=m+49) cL (by decide) hmi (A3 hmost (by decide)) (fun s hs=>A3 (vz_wz 5 s ((sS s).mpr hs)) (A6 q5)) fa fb ?_ (fun {K} k2=>?_) fun Ls' R' h1' h2' h3'=>?_
   ·refine wg (lots_len e1) (wg FM ?_);exact A3 L.1.1.zn.1 (by decide)
   ·exact y_lots (nd:=p.nd) (ps:=ps) (by refine wh L'.1.2.1 ?_;rfl) L'.1.1.nd L'.1.1.zn.1 zp e1 k2
   ·have pm:Ls.Perm Ls':=(List.perm_ext_iff_of_nodup h1 h1').mpr fun v=>(h2 v).trans ((pq_same sS).trans (h2' v).symm)
    refine wh (Seq.same (fun v hv=>(((h2 v).mp hv).pa cG (A3 hmost (by decide))).1.tm) pm h3 h3') ?_
    exact k'
end
theorem x_d0 {t:XT} {m:XS} {lc:Lc} {hp:Hp} {N:Lc→Hp→Prop} {R:KV} (h:t (.loc hp.length) lc (hp++[.dict true []]) fun lc hp=>m lc hp N R):xseq (BO (Bx []) t) m lc hp N R:=h
section
variable {sc:Addr} {ns:List Int}
theorem y_hc {m:Nat} {hp:Hp} {b:V} {K:KV} (k:K (.loc (hp.length+1)) (hp++[.ns 264 [b,.loc (hp.length+2),.loc (hp.length+3)],.inst 264 hp.length,.dict true [],.dict true []])):Phi sc ns (m+2) 264 [b] hp K:=by
 have e0:(hp++[PO.ns 264 []])++[PO.inst 264 hp.length]=hp++[.ns 264 [],.inst 264 hp.length]:=Bq
 have e1:(hp++[PO.ns 264 [b],PO.inst 264 hp.length])++[PO.dict true []]=hp++[.ns 264 [b],.inst 264 hp.length,.dict true []]:=Bq
 have e2:(hp++[PO.ns 264 [b,.loc (hp.length+2)],PO.inst 264 hp.length,.dict true []])++[PO.dict true []]=hp++[.ns 264 [b,.loc (hp.length+2)],.inst 264 hp.length,.dict true [],.dict true []]:=Bq
 have z1:(hp++[PO.ns 264 [b],PO.inst 264 hp.length]).length=hp.length+2:=A7
 have z2:(hp++[PO.ns 264 [b,.loc (hp.length+2)],PO.inst 264 hp.length,.dict true []]).length=hp.length+3:=A7
 refine A0 rfl ?_
 show DV [some (.loc (hp.length+1)),some b] ((hp++[PO.ns 264 []])++[PO.inst 264 hp.length]) _ _
 refine wg e0 ?_
 refine at_ f1t Bn (A0 ⟨A6 rfl,A6 rfl⟩ ?_)
 refine wg Cr ?_
 show xseq _ _ [some (.loc (hp.length+1)),some b] (hp++[PO.ns 264 [b],PO.inst 264 hp.length]) _ _
 refine x_d0 ?_
 refine wg z1 (wg e1 ?_)
 refine at_ f1t Bn (A0 ⟨A6 rfl,A6 rfl⟩ ?_)
 refine wg Cr ?_
 show xseq _ _ [some (.loc (hp.length+1)),some b] (hp++[PO.ns 264 [b,.loc (hp.length+2)],PO.inst 264 hp.length,.dict true []]) _ _
 refine x_d0 ?_
 refine wg z2 (wg e2 ?_)
 refine at_ f1t Bn (A0 ⟨A6 rfl,A6 rfl⟩ ?_)
 refine wg Cr ?_
 exact A0 rfl k
end
noncomputable def bldF (w s pl:Nat):Option (PS×List Nat):=bo (addS (Fx 0 (rng 0 w)) ps0) fun p=>bo (addS (Fx 7 (rng 0 w)) p) fun p=>Id ((rng 0 w).set s 0) pl [0,w] p
noncomputable def isS {α:Type} (o:Option α):Bool:=Y0 false (fun zz=>true) o
noncomputable def okT (w:Nat) (p:PS) (e0 e1 way t u:Nat):Bool:=isS (bo (toldF w p way t u) fun q=>bo (bo (Ek q.2 q.1) (EK 60)) fun p'=>okD p' e0 e1 q.2)
noncomputable def okE (w:Nat) (p:PS) (e0 e1:Nat):Bool:=an (isS (okD p e0 e1 [])) (CR (rng 1 (w - 1)) fun t=>an (okT w p e0 e1 1 t 0) (CR (rng 0 w) fun u=>okT w p e0 e1 2 t u))
noncomputable def okH (w s pl:Nat):Bool:=isS (bo (bldF w s pl) fun q=>bo (nth q.2 0) fun e0=>bo (nth q.2 1) fun e1=>gd (an (H7 q.2.length 2) (okE w q.1 e0 e1)) (some ()))
theorem two_ {l:List Nat} {a b:Nat} (h:l.length=2) (h0:l[0]?=some a) (h1:l[1]?=some b):l=[a,b]:=by
 cases l with
 | nil=>cases h
 | cons x l=>cases l with
  | nil=>cases h
  | cons y l=>cases l with
   | nil=>cases h0;cases h1;rfl
   | cons _ _=>cases h
theorem isS_ {α:Type} {o:Option α} (h:isS o=true):∃x,o=some x:=by
 cases o with
 | none=>cases h
 | some x=>exact ⟨x,rfl⟩
noncomputable def Okd (p:PS) (e0 e1:Nat) (ps:List (Nat×Nat)):Prop:=∃hm fs gt,Ha p.nd 60 ((0,0)::ps) (rng 0 p.nd.length) []=some (hm,fs)∧Com p hm fs gt∧ps.length≤100∧okA p hm gt e0 e1=some ()∧okA p hm gt e1 e0=some ()
theorem okD_ {p:PS} {e0 e1:Nat} {ps:List (Nat×Nat)} {u:Unit} (h:okD p e0 e1 ps=some u):Okd p e0 e1 ps:=by
 refine bo_ h fun q e1 h=>bo_ h fun gt e2 h=>?_
 refine an2 (CT h) fun h3 h=>?_
 refine an2 (CT e1) fun h4 h5=>?_
 exact bo_ h fun u h6 h7=>⟨q.1,q.2,gt,h5,com_ e2 h3,A6 h4,h6,h7⟩
theorem okH_ {w s pl:Nat} (h:okH w s pl=true):∃p1 p2 p e0 e1,addS (Fx 0 (rng 0 w)) ps0=some p1∧addS (Fx 7 (rng 0 w)) p1=some p2∧Id ((rng 0 w).set s 0) pl [0,w] p2=some (p,[e0,e1])∧Okd p e0 e1 []∧
  ∀way t u,way<3→1≤t→t<w→u<w→∃q p',toldF w p way t u=some q∧bo (Ek q.2 q.1) (EK 60)=some p'∧Okd p' e0 e1 q.2:=by
 refine ex1 (isS_ h) fun u h=>?_
 refine bo_ h fun q eb h=>CI h fun e0 g0 h=>CI h fun e1 g1 h=>bo_ eb fun p1 h1 eb=>bo_ eb fun p2 h2 h3=>?_
 refine an2 (CT h) fun h zz=>?_
 refine an2 (an_ h) fun hz h=>?_
 obtain ⟨p,l⟩:=q
 cases two_ (F6 hz) g0 g1
 refine an2 (an_ h) fun h4 h5=>?_
 have h5:=fun t ht=>an_ (lAll_ h5 t ht)
 have ot:∀{way t u},okT w p e0 e1 way t u=true→∃q p',toldF w p way t u=some q∧bo (Ek q.2 q.1) (EK 60)=some p'∧Okd p' e0 e1 q.2:=fun {way t u} h=>by
  refine ex1 (isS_ h) fun v h=>?_
  exact bo_ h fun q h1 h=>bo_ h fun p' h2 h=>⟨q,p',h1,h2,okD_ h⟩
 refine ⟨p1,p2,p,e0,e1,h1,h2,h3,(isS_ h4).elim fun zz h=>okD_ h,fun way t u hw h1 ht hu=>?_⟩
 have mt:t∈rng 1 (w - 1):=Dm.mpr ⟨h1,(g6 (A3 h1 (D9 ht))).symm▸ht⟩
 match way,hw with
 | 0,_=>exact ot (way:=2) (lAll_ (h5 t mt).2 t (Dm.mpr ⟨E2 _,(I0 w).symm▸ht⟩))
 | 1,_=>exact ot (way:=1) (u:=0) (h5 t mt).1
 | 2,_=>exact ot (way:=2) (lAll_ (h5 t mt).2 u (Dm.mpr ⟨E2 _,(I0 w).symm▸hu⟩))
theorem xy_:List.map (fun c=>V.str ⟨#[c]⟩) (C7 "xy").cps.toList=[V.str ⟨#[120]⟩,V.str ⟨#[121]⟩]:=congrArg (List.map fun c=>V.str ⟨#[c]⟩) (by decide+kernel:(C7 "xy").cps.toList=[120,121])
@[reducible] noncomputable def LC (sc:Addr) (v4 v5 v6 v7 v8 v9 v10 v11 v12 v13 v14 v15:Option V):Lc:=[some (.gl (.ref sc)),some (.loc 0),some (.loc 2),some (.loc 19),v4,v5,v6,v7,v8,v9,v10,v11,v12,v13,v14,v15]
section
variable {sc:Addr} {ns:List Int}
theorem Fre.dif {x:HS} {i j:Nat} {o o':PO} (h:Fre x i o) (h':Fre x j o') (ne:o≠o'):i≠j:=fun e=>ne (G9 ((e▸h.1).symm.trans h'.1))
theorem y_ask {fn f2:Fn} {p:PS} {x:HS} {w ie e0 e1:Nat} {v5 v6 v7 v9 v10:Option V} {N:Lc→Hp→Prop} {R:KV} (hfn:∀{hp:Hp} {K:KV},K (.loc (hp.length+1)) (hp++[.ns 264 [.loc 2,.loc (hp.length+2),.loc (hp.length+3)],.inst 264 hp.length,.dict true [],.dict true []])→fn [.loc 2] hp K)
  (h2:∀{x:HS} {K:KV},Lk 3 p x→(∀r x',r<3→Lk (3+1) p x'→Ke x x'→K (iN r) (H p x'))→f2 [.loc 0,.int 3] (H p x) K) (L:Lk 3 p x) (hE:Fre x ie (.list [iN e0,iN e1]))
  (hZ:∀i j y z r x,r<3→Lk 4 p x→Fre x ie (.list [iN e0,iN e1])→Fre x i (.inst 264 (j+20))→Fre x j (.ns 264 [.loc 2,y,z])→N (LC sc (some (iN w)) v5 v6 v7 (some (.loc (ie+20))) v9 v10 (some (.loc (i+20))) (some (iN (w+1+r))) none none none) (H p x)):
  xswap (BW [(BK fn [(BB 2)]),(BJ CB (BJ CB (BB 4) (BH (.int 1))) (BK f2 [(BB 1),(BH (.int 3))]))]) [11,12] (LC sc (some (iN w)) v5 v6 v7 (some (.loc (ie+20))) v9 v10 none none none none none) (H p x) N R:=by
 refine hfn ?_
 obtain ⟨l,el⟩:∃l:Hp,l=[.ns 264 [.loc 2,.loc ((H p x).length+2),.loc ((H p x).length+3)],.inst 264 (H p x).length,.dict true [],.dict true []]:=⟨_,rfl⟩
 refine wh el ?_
 have hj:Fre {x with v:=x.v++l} x.v.length (.ns 264 [.loc 2,.loc ((H p x).length+2),.loc ((H p x).length+3)]):=el▸Fre.new L.1.1
 have hi:Fre {x with v:=x.v++l} (x.v.length+1) (.inst 264 (H p x).length):=⟨el▸f1t,fun a ha=>have z:=A9 (N0 y7) (L.1.1.a2 a ha);⟨J6 (M5 z),J6 (T7 z)⟩⟩
 exact h2 (x:={x with v:=x.v++l}) L.app fun r x' hr L' kx=>A0 rfl (hZ (x.v.length+1) x.v.length _ _ r x' hr L' (kx _ _ hE.app) (kx _ _ hi) (kx _ _ hj))
theorem y_law {K:KV} (hF:∀w s pl,5≤w→w≤7→1≤s→s<w→pl<w→okH w s pl=true) (hK:∀hp,K (.bool true) hp):Phi sc ns 67 545 [.gl (.ref sc)] [] K:=by
 refine A0 rfl ?_
 show x_law sc ns (Phi sc ns 66) (LC sc none none none none none none none none none none none none) _ _ _
 unfold x_law
 refine CW (fun Z=>∀x,Lk 0 ps0 x→Z (LC sc none none none none none none none none none none none none) (H ps0 x)) (fun Z hZ=>y_start (fun row u=>hZ _ ⟨⟨rep0,rfl,u⟩,H3 0⟩) fun k=>y_heap0 k) fun x L=>?_
 refine CW (fun Z=>∀w x,5≤w∧w≤7→Lk 1 ps0 x→Z (LC sc (some (iN w)) none none none none none none none none none none none) (H ps0 x)) (fun Z hZ=>DH (many:=3) L (by decide) rfl (by decide) fun r x' hr L' zz=>hZ (5+r) x' ⟨C0 _ _,B7 (E6 hr) 5⟩ L') fun w x hw L=>?_
 refine CW (fun Z=>∀v5 v6 p1 p2 x,addS (Fx 0 (rng 0 w)) ps0=some p1→addS (Fx 7 (rng 0 w)) p1=some p2→Lk 1 p2 x→Z (LC sc (some (iN w)) v5 v6 none none none none none none none none none) (H p2 x)) (fun Z hZ=>?_) fun v5 v6 p1 p2 x f1 f2 L=>?_
 ·have hp:=hF w 1 0 hw.1 hw.2 (B2 1) (A9 (by decide) hw.1) (Y8 hw.1)
  refine ex3 (okH_ hp) fun p1 p2 zz hh=>?_;refine CE hh fun zz zz f1 f2 zz=>?_;clear hh
  refine A0 (by decide+kernel) ?_
  show xloop _ _ _ _ _ (List.map (fun c=>V.str ⟨#[c]⟩) (C7 "xy").cps.toList) _ _
  refine wg xy_ ?_
  have er:EU 0 (m4 ((w:Nat):Int))=(rng 0 w).map iN:=Gn
  refine A0 trivial (A0 ⟨C6 _,wi hw⟩ ?_)
  refine wg er ?_
  refine y_leaf leaf_x (by decide) hw.2 f1 L fun x6 x L=>A0 trivial (A0 ⟨C6 _,wi hw⟩ ?_)
  refine wg er ?_
  exact y_leaf leaf_y (by decide) hw.2 f2 L fun x6 x L=>A0 trivial (hZ _ _ _ _ _ f1 f2 L)
 refine CW (fun Z=>∀is ie x,ie≠is→Lk 1 p2 x→Fre x is (.list ((rng 0 w).map iN))→Fre x ie (.list [])→Z (LC sc (some (iN w)) v5 v6 (some (.loc (is+20))) (some (.loc (ie+20))) none none none none none none none) (H p2 x)) (fun Z hZ=>?_) fun is ie x nie L h1 h2=>?_
 ·refine A0 ⟨C6 _,wi hw⟩ (A0 rfl ?_)
  obtain ⟨l,el⟩:∃l,l=EU 0 (m4 ((w:Nat):Int)):=⟨_,rfl⟩
  refine wh el ?_
  have h1:Fre {x with v:=x.v++[PO.list l]} x.v.length (.list l):=Fre.new L.1.1
  have h2:Fre {x with v:=(x.v++[PO.list l])++[PO.list []]} (x.v++[PO.list l]).length (.list []):=Fre.new (x:={x with v:=x.v++[PO.list l]}) (L.app (t:=[_])).1.1
  refine hZ x.v.length (x.v++[PO.list l]).length _ ?_ L.app.app ?_ h2
  ·refine wg A7 ?_;exact Nat.succ_ne_self _
  ·refine wh (el.trans Gn:l=(rng 0 w).map iN) ?_;exact h1.app
 refine CW (fun Z=>∀s x,1≤s→s<w→Lk 2 p2 x→Fre x is (.list (((rng 0 w).set s 0).map iN))→Fre x ie (.list [])→Z (LC sc (some (iN w)) v5 v6 (some (.loc (is+20))) (some (.loc (ie+20))) none none none none none none none) (H p2 x)) (fun Z hZ=>?_) fun s x h1 h2 L h3 h4=>?_
 ·refine DH (many:=w - 1) L (by decide) (w1 hw) (w0 hw) fun r x' hr L' kx=>pL_ (kx _ _ h1).1 (A0 ⟨by exact C6 _,?_,?_⟩ ?_)
  ·refine wg (A4 ..) (wg FM ?_);exact t5 hr
  ·refine wg (A4 ..) (wg FM ?_);exact up hw.2 rfl
  ·have e:((rng 0 w).map iN).set (1+r) (iN 0)=((rng 0 w).set (1+r) 0).map iN:=AT.symm
   have f:=(kx _ _ h1).put (o':= .list (((rng 0 w).map iN).set (1+r) (iN 0)))
   have f2:=(kx _ _ h2).ne (o':= .list (((rng 0 w).map iN).set (1+r) (iN 0))) nie.symm
   exact hZ (1+r) _ (C0 1 r) (t5 hr) (L'.put (kx _ _ h1)) (e▸f) f2
 refine CW (fun Z=>∀pl x,pl<w→Lk 3 p2 x→Fre x is (.list (((rng 0 w).set s 0).map iN))→Fre x ie (.list [])→Z (LC sc (some (iN w)) v5 v6 (some (.loc (is+20))) (some (.loc (ie+20))) (some (iN pl)) none none none none none none) (H p2 x)) (fun Z hZ=>?_) fun pl x h5 L h3 h4=>?_
 ·exact DH (many:=w) L (by decide) rfl (Y8 hw.1) fun pl x' hr L' kx=>hZ pl x' hr L' (kx _ _ h3) (kx _ _ h4)
 obtain ⟨_,_,p,e0,e1,g1,g2,f3,O1,O2⟩:=okH_ (hF w s pl hw.1 hw.2 h1 h2 h5)
 cases f1.symm.trans g1
 cases f2.symm.trans g2
 refine CW (fun Z=>∀v5 v10 x,Lk 3 p x→Fre x ie (.list [iN e0,iN e1])→Z (LC sc (some (iN w)) v5 v6 (some (.loc (is+20))) (some (.loc (ie+20))) (some (iN pl)) v10 none none none none none) (H p x)) (fun Z hZ=>?_) fun v5 v10 x L hE=>?_
 ·have zs:((rng 0 w).set s 0).length≤20:=by refine wg O4 (wg FM ?_);exact up hw.2 rfl
  exact y_sides (l:=[0,w]) zs nie.symm f3 L h3 h4 (show 2≤20 by decide) fun x5 x10 x' L' f=>hZ x5 x10 x' L' f
 refine CW (fun Z=>∀i j y z most x,most≤10→Lk 4 p x→Fre x ie (.list [iN e0,iN e1])→Fre x i (.inst 264 (j+20))→Fre x j (.ns 264 [.loc 2,y,z])→Z (LC sc (some (iN w)) v5 v6 (some (.loc (is+20))) (some (.loc (ie+20))) (some (iN pl)) v10 (some (.loc (i+20))) (some (iN most)) none none none) (H p x)) (fun Z hZ=>?_) fun i j y z most x hm L hE hi hj=>?_
 ·exact y_ask (fun k=>y_hc k) (fun L k=>DH (many:=3) L (by decide) rfl (by decide) k) L hE fun i j y z r x hr L hE hi hj=>hZ i j y z (w+1+r) x (U8 (B1 hw.2) (E6 hr)) L hE hi hj
 obtain ⟨hm1,fs1,gt1,l1,C1,z1,a1,_⟩:=O1
 refine CW (fun Z=>∀y z x,Lk 4 p x→Fre x ie (.list [iN e0,iN e1])→Fre x i (.inst 264 (j+20))→Fre x j (.ns 264 [.loc 2,y,z])→Z (LC sc (some (iN w)) v5 v6 (some (.loc (is+20))) (some (.loc (ie+20))) (some (iN pl)) v10 (some (.loc (i+20))) (some (iN most)) none none none) (H p x)) (fun Z hZ=>?_) fun y z x L hE hi hj=>?_
 ·refine A0 (at_ hi.1 hj.1 trivial) (pL_ hE.1 (A0 ⟨A6 rfl,H3 0⟩ (pL_ hE.1 (A0 ⟨A6 rfl,by decide⟩ ?_))))
  show Phi sc ns (6+60) 242 [.loc (i+20),iN e0,iN e1,iN most] (H p x) _
  refine y_pair L l1 C1 a1 z1 rfl hm hi hj fun l x' L' kx hn hc due=>?_
  have hE':=kx ie _ (hE.dif hj fun e=>(nomatch e)) hE
  refine pL_ hE'.1 (A0 ⟨A6 rfl,H3 0⟩ (pL_ hE'.1 (A0 ⟨A6 rfl,by decide⟩ ?_)))
  show Phi sc ns (6+60) 535 [.loc 19,.lst [],iN e0,iN e1,iN most] (H p x') _
  refine due (A0 ⟨hc,hc⟩ (A0 (fun q=>absurd rfl (DW q)) fun zz=>?_))
  exact hn.elim fun y hn=>hn.elim fun z hn=>hZ y z x' L' hE' (kx i _ (hi.dif hj fun e=>(nomatch e)) hi) hn
 refine CW (fun Z=>∀(q:PS×List (Nat×Nat)) p y z most x,Okd p e0 e1 q.2→most≤10→Lk 8 p x→Fre x ie (.list [iN e0,iN e1])→Fre x i (.inst 264 (j+20))→Fre x j (.ns 264 [.loc 2,y,z])→Z (LC sc (some (iN w)) v5 v6 (some (.loc (is+20))) (some (.loc (ie+20))) (some (iN pl)) v10 (some (.loc (i+20))) (some (iN most)) (some (.lst (q.2.map By))) none none) (H p x)) (fun Z hZ=>?_) fun q p y z most x O hm L hE hi hj=>?_
 ·show Phi sc ns (59+7) 540 [.loc 0,.loc 2,.loc 19,iN w] (H p x) _
  refine y_told (W:=fun q p'=>Okd p' e0 e1 q.2) L (by decide) hw O2 fun q p' x' O L' kx=>?_
  refine DH (many:=4) L' (by decide) rfl (by decide) fun r x2 hr L2 k2=>A0 rfl ?_
  exact hZ q p' y z (w+r) x2 O (U8 hw.2 (E6 hr)) L2 (k2 _ _ (kx _ _ hE)) (k2 _ _ (kx _ _ hi)) (k2 _ _ (kx _ _ hj))
 refine Dw O fun hm1 fs1 gt1 l1 C1 hh=>?_;clear O;refine an3 hh fun z1 a1 a2=>?_;clear hh
 refine CW (fun Z=>∀a b x,okA p hm1 gt1 a b=some ()→Lk 9 p x→Fre x i (.inst 264 (j+20))→Fre x j (.ns 264 [.loc 2,y,z])→Z (LC sc (some (iN w)) v5 v6 (some (.loc (is+20))) (some (.loc (ie+20))) (some (iN pl)) v10 (some (.loc (i+20))) (some (iN most)) (some (.lst (q.2.map By))) (some (iN a)) (some (iN b))) (H p x)) (fun Z hZ=>?_) fun a b x a1 L hi hj=>?_
 ·refine DH (many:=2) L (by decide) rfl (by decide) fun r x2 hr L2 k2=>?_
  have hE:=k2 _ _ hE
  refine A0 ⟨rfl,rfl⟩ (A0 (fun zz=>?_) fun zz=>?_)
  ·exact pL_ hE.1 (A0 rfl (hZ e0 e1 x2 a1 L2 (k2 _ _ hi) (k2 _ _ hj)))
  ·exact pL_ hE.1 (A0 rfl (hZ e1 e0 x2 a2 L2 (k2 _ _ hi) (k2 _ _ hj)))
 refine CW (fun Z=>∀x,Lk 9 p x→Z (LC sc (some (iN w)) v5 v6 (some (.loc (is+20))) (some (.loc (ie+20))) (some (iN pl)) v10 (some (.loc (i+20))) (some (iN most)) (some (.lst (q.2.map By))) (some (iN a)) (some (iN b))) (H p x)) (fun Z hZ=>?_) fun x L=>?_
 ·refine A0 (at_ hi.1 hj.1 trivial) ?_
  show Phi sc ns (6+60) 242 [.loc (i+20),iN a,iN b,iN most] (H p x) _
  refine y_pair L l1 C1 a1 z1 rfl hm hi hj fun l x' L' kx hn hc due=>?_
  show Phi sc ns (6+60) 535 [.loc 19,.lst (q.2.map By),iN a,iN b,iN most] (H p x') _
  exact due (A0 ⟨hc,hc⟩ (A0 (fun q=>absurd rfl (DW q)) fun zz=>hZ x' L'))
 refine A0 (at_ rfl rfl trivial) ?_
 show Phi sc ns (64+2) 371 [.loc 2] (H p x) _
 refine y_size L.1.1 (DX rfl (A0 ?_ (A0 ⟨rfl,rfl⟩ ?_)))
 ·refine wg L.1.2.1 ?_;exact L.1.1.zd
 ·refine wg L.1.2.1 (wg (A4 ..) ?_)
  show K (.bool (decide (iN p.nd.length=iN p.nd.length)^^false)) _
  refine wg (decide_eq_true rfl) ?_;exact hK _
end
noncomputable def okW (w s:Nat):Bool:=CR (rng 0 w) (okH w s)
noncomputable def okV (w:Nat):Bool:=CR (rng 1 (w - 1)) (okW w)
theorem lc {α:Type} {p:α→Bool} {x:α} {l:List α} (a:p x=true) (b:CR l p=true):CR (x::l) p=true:=by
 show an (p x) (CR l p)=true
 rw[a,b]
 rfl
theorem o510:okH 5 1 0=true:=by decide+kernel
theorem o511:okH 5 1 1=true:=by decide+kernel
theorem o512:okH 5 1 2=true:=by decide+kernel
theorem o513:okH 5 1 3=true:=by decide+kernel
theorem o514:okH 5 1 4=true:=by decide+kernel
theorem ok51:okW 5 1=true:=by
 show CR [0,1,2,3,4] (okH 5 1)=true
 exact (lc o510 (lc o511 (lc o512 (lc o513 (lc o514 rfl)))))
theorem o520:okH 5 2 0=true:=by decide+kernel
theorem o521:okH 5 2 1=true:=by decide+kernel
theorem o522:okH 5 2 2=true:=by decide+kernel
theorem o523:okH 5 2 3=true:=by decide+kernel
theorem o524:okH 5 2 4=true:=by decide+kernel
theorem ok52:okW 5 2=true:=by
 show CR [0,1,2,3,4] (okH 5 2)=true
 exact (lc o520 (lc o521 (lc o522 (lc o523 (lc o524 rfl)))))
theorem o530:okH 5 3 0=true:=by decide+kernel
theorem o531:okH 5 3 1=true:=by decide+kernel
theorem o532:okH 5 3 2=true:=by decide+kernel
theorem o533:okH 5 3 3=true:=by decide+kernel
theorem o534:okH 5 3 4=true:=by decide+kernel
theorem ok53:okW 5 3=true:=by
 show CR [0,1,2,3,4] (okH 5 3)=true
 exact (lc o530 (lc o531 (lc o532 (lc o533 (lc o534 rfl)))))
theorem o540:okH 5 4 0=true:=by decide+kernel
theorem o541:okH 5 4 1=true:=by decide+kernel
theorem o542:okH 5 4 2=true:=by decide+kernel
theorem o543:okH 5 4 3=true:=by decide+kernel
theorem o544:okH 5 4 4=true:=by decide+kernel
theorem ok54:okW 5 4=true:=by
 show CR [0,1,2,3,4] (okH 5 4)=true
 exact (lc o540 (lc o541 (lc o542 (lc o543 (lc o544 rfl)))))
theorem o610:okH 6 1 0=true:=by decide+kernel
theorem o611:okH 6 1 1=true:=by decide+kernel
theorem o612:okH 6 1 2=true:=by decide+kernel
theorem o613:okH 6 1 3=true:=by decide+kernel
theorem o614:okH 6 1 4=true:=by decide+kernel
theorem o615:okH 6 1 5=true:=by decide+kernel
theorem ok61:okW 6 1=true:=by
 show CR [0,1,2,3,4,5] (okH 6 1)=true
 exact (lc o610 (lc o611 (lc o612 (lc o613 (lc o614 (lc o615 rfl))))))
theorem o620:okH 6 2 0=true:=by decide+kernel
theorem o621:okH 6 2 1=true:=by decide+kernel
theorem o622:okH 6 2 2=true:=by decide+kernel
theorem o623:okH 6 2 3=true:=by decide+kernel
theorem o624:okH 6 2 4=true:=by decide+kernel
theorem o625:okH 6 2 5=true:=by decide+kernel
theorem ok62:okW 6 2=true:=by
 show CR [0,1,2,3,4,5] (okH 6 2)=true
 exact (lc o620 (lc o621 (lc o622 (lc o623 (lc o624 (lc o625 rfl))))))
theorem o630:okH 6 3 0=true:=by decide+kernel
theorem o631:okH 6 3 1=true:=by decide+kernel
theorem o632:okH 6 3 2=true:=by decide+kernel
theorem o633:okH 6 3 3=true:=by decide+kernel
theorem o634:okH 6 3 4=true:=by decide+kernel
theorem o635:okH 6 3 5=true:=by decide+kernel
theorem ok63:okW 6 3=true:=by
 show CR [0,1,2,3,4,5] (okH 6 3)=true
 exact (lc o630 (lc o631 (lc o632 (lc o633 (lc o634 (lc o635 rfl))))))
theorem o640:okH 6 4 0=true:=by decide+kernel
theorem o641:okH 6 4 1=true:=by decide+kernel
theorem o642:okH 6 4 2=true:=by decide+kernel
theorem o643:okH 6 4 3=true:=by decide+kernel
theorem o644:okH 6 4 4=true:=by decide+kernel
theorem o645:okH 6 4 5=true:=by decide+kernel
theorem ok64:okW 6 4=true:=by
 show CR [0,1,2,3,4,5] (okH 6 4)=true
 exact (lc o640 (lc o641 (lc o642 (lc o643 (lc o644 (lc o645 rfl))))))
theorem o650:okH 6 5 0=true:=by decide+kernel
theorem o651:okH 6 5 1=true:=by decide+kernel
theorem o652:okH 6 5 2=true:=by decide+kernel
theorem o653:okH 6 5 3=true:=by decide+kernel
theorem o654:okH 6 5 4=true:=by decide+kernel
theorem o655:okH 6 5 5=true:=by decide+kernel
theorem ok65:okW 6 5=true:=by
 show CR [0,1,2,3,4,5] (okH 6 5)=true
 exact (lc o650 (lc o651 (lc o652 (lc o653 (lc o654 (lc o655 rfl))))))
theorem o710:okH 7 1 0=true:=by decide+kernel
theorem o711:okH 7 1 1=true:=by decide+kernel
theorem o712:okH 7 1 2=true:=by decide+kernel
theorem o713:okH 7 1 3=true:=by decide+kernel
theorem o714:okH 7 1 4=true:=by decide+kernel
theorem o715:okH 7 1 5=true:=by decide+kernel
theorem o716:okH 7 1 6=true:=by decide+kernel
theorem ok71:okW 7 1=true:=by
 show CR [0,1,2,3,4,5,6] (okH 7 1)=true
 exact (lc o710 (lc o711 (lc o712 (lc o713 (lc o714 (lc o715 (lc o716 rfl)))))))
theorem o720:okH 7 2 0=true:=by decide+kernel
theorem o721:okH 7 2 1=true:=by decide+kernel
theorem o722:okH 7 2 2=true:=by decide+kernel
theorem o723:okH 7 2 3=true:=by decide+kernel
theorem o724:okH 7 2 4=true:=by decide+kernel
theorem o725:okH 7 2 5=true:=by decide+kernel
theorem o726:okH 7 2 6=true:=by decide+kernel
theorem ok72:okW 7 2=true:=by
 show CR [0,1,2,3,4,5,6] (okH 7 2)=true
 exact (lc o720 (lc o721 (lc o722 (lc o723 (lc o724 (lc o725 (lc o726 rfl)))))))
theorem o730:okH 7 3 0=true:=by decide+kernel
theorem o731:okH 7 3 1=true:=by decide+kernel
theorem o732:okH 7 3 2=true:=by decide+kernel
theorem o733:okH 7 3 3=true:=by decide+kernel
theorem o734:okH 7 3 4=true:=by decide+kernel
theorem o735:okH 7 3 5=true:=by decide+kernel
theorem o736:okH 7 3 6=true:=by decide+kernel
theorem ok73:okW 7 3=true:=by
 show CR [0,1,2,3,4,5,6] (okH 7 3)=true
 exact (lc o730 (lc o731 (lc o732 (lc o733 (lc o734 (lc o735 (lc o736 rfl)))))))
theorem o740:okH 7 4 0=true:=by decide+kernel
theorem o741:okH 7 4 1=true:=by decide+kernel
theorem o742:okH 7 4 2=true:=by decide+kernel
theorem o743:okH 7 4 3=true:=by decide+kernel
theorem o744:okH 7 4 4=true:=by decide+kernel
theorem o745:okH 7 4 5=true:=by decide+kernel
theorem o746:okH 7 4 6=true:=by decide+kernel
theorem ok74:okW 7 4=true:=by
 show CR [0,1,2,3,4,5,6] (okH 7 4)=true
 exact (lc o740 (lc o741 (lc o742 (lc o743 (lc o744 (lc o745 (lc o746 rfl)))))))
theorem o750:okH 7 5 0=true:=by decide+kernel
theorem o751:okH 7 5 1=true:=by decide+kernel
theorem o752:okH 7 5 2=true:=by decide+kernel
theorem o753:okH 7 5 3=true:=by decide+kernel
theorem o754:okH 7 5 4=true:=by decide+kernel
theorem o755:okH 7 5 5=true:=by decide+kernel
theorem o756:okH 7 5 6=true:=by decide+kernel
theorem ok75:okW 7 5=true:=by
 show CR [0,1,2,3,4,5,6] (okH 7 5)=true
 exact (lc o750 (lc o751 (lc o752 (lc o753 (lc o754 (lc o755 (lc o756 rfl)))))))
theorem o760:okH 7 6 0=true:=by decide+kernel
theorem o761:okH 7 6 1=true:=by decide+kernel
theorem o762:okH 7 6 2=true:=by decide+kernel
theorem o763:okH 7 6 3=true:=by decide+kernel
theorem o764:okH 7 6 4=true:=by decide+kernel
theorem o765:okH 7 6 5=true:=by decide+kernel
theorem o766:okH 7 6 6=true:=by decide+kernel
theorem ok76:okW 7 6=true:=by
 show CR [0,1,2,3,4,5,6] (okH 7 6)=true
 exact (lc o760 (lc o761 (lc o762 (lc o763 (lc o764 (lc o765 (lc o766 rfl)))))))
theorem ok5:okV 5=true:=by
 show CR [1,2,3,4] (okW 5)=true
 exact lc ok51 (lc ok52 (lc ok53 (lc ok54 rfl)))
theorem ok6:okV 6=true:=by
 show CR [1,2,3,4,5] (okW 6)=true
 exact lc ok61 (lc ok62 (lc ok63 (lc ok64 (lc ok65 rfl))))
theorem ok7:okV 7=true:=by
 show CR [1,2,3,4,5,6] (okW 7)=true
 exact lc ok71 (lc ok72 (lc ok73 (lc ok74 (lc ok75 (lc ok76 rfl)))))
theorem okX:CR (rng 5 3) okV=true:=by
 show CR [5,6,7] okV=true
 exact lc ok5 (lc ok6 (lc ok7 rfl))
theorem okH_all:∀w s pl,5≤w→w≤7→1≤s→s<w→pl<w→okH w s pl=true:=fun w s pl h1 h2 h3 h4 h5=>
 lAll_ (lAll_ (lAll_ okX w (Dm.mpr ⟨h1,I7 h2⟩)) s (Dm.mpr ⟨h3,(g6 (A3 h3 (D9 h4))).symm▸h4⟩)) pl (Dm.mpr ⟨E2 _,(I0 w).symm▸h5⟩)
theorem ends:Ends:=fun sa ns h K hK=>y_law okH_all hK
theorem top.tw5473990105741250596:True:=⟨⟩
theorem top.tw163884053601265183:True:=⟨⟩
theorem top.tw8666612474580985164:True:=⟨⟩
theorem top.tw16266046182406567281:True:=⟨⟩
theorem top.tw17294258476364778673:True:=⟨⟩
theorem top.tw17612624397650469744:True:=⟨⟩
theorem top.tw12753528051591568322:True:=⟨⟩
theorem top.tw14851538216430930267:True:=⟨⟩
theorem top.tw6097655460758374170:True:=⟨⟩
theorem top.tw13182829986009207066:True:=⟨⟩
theorem top.tw2499211546467100236:True:=⟨⟩
theorem top.tw6512838611621108519:True:=⟨⟩
theorem top.tw7035660316393160001:True:=⟨⟩
theorem top.tw17287273102317019056:True:=⟨⟩
theorem top.tw10834203472860189552:True:=⟨⟩
theorem top.tw9023603149734847421:True:=⟨⟩
theorem top.tw3423693790399410034:True:=⟨⟩
theorem top.tw15944263967353428039:True:=⟨⟩
theorem top.tw10953701514260034837:True:=⟨⟩
theorem top.tw669009447543304004:True:=⟨⟩
theorem top.tw7790451599684873713:True:=⟨⟩
theorem top.tw7445900302777003939:True:=⟨⟩
theorem top.tw14209588739459627496:True:=⟨⟩
theorem top.tw4392121412701819569:True:=⟨⟩
theorem top.tw2952970861071799623:True:=⟨⟩
theorem top.tw17486130782048553412:True:=⟨⟩
theorem top.tw8675782371341395520:True:=⟨⟩
theorem top.tw8962291564290336180:True:=⟨⟩
theorem top.tw10710663380935848053:True:=⟨⟩
theorem top.tw15159364618328049734:True:=⟨⟩
theorem top.tw5322745007738618574:True:=⟨⟩
theorem top.tw5818288852761326319:True:=⟨⟩
theorem top.tw11967060355109487576:True:=⟨⟩
theorem top.tw17150486709102819674:True:=⟨⟩
theorem top.tw7392932871158580951:True:=⟨⟩
theorem top.tw9214077377557974127:True:=⟨⟩
theorem top.tw14745097296005518818:True:=⟨⟩
theorem top.tw10444611691960607353:True:=⟨⟩
theorem top.tw16986899552879100383:True:=⟨⟩
theorem top.tw633961789465825759:True:=⟨⟩
theorem top.tw12112644397156476413:True:=⟨⟩
theorem top.tw12956361015416726538:True:=⟨⟩
theorem top.tw2059055850335726714:True:=⟨⟩
theorem top.tw1459965591142175206:True:=⟨⟩
theorem top.tw7408972850765985889:True:=⟨⟩
theorem top.tw13505688805087003895:True:=⟨⟩
theorem top.tw774531465980340394:True:=⟨⟩
theorem top.tw12509089438165600114:True:=⟨⟩
theorem top.tw6911682622678553293:True:=⟨⟩
theorem top.tw8031701696515175598:True:=⟨⟩
theorem top.tw17839812397989569199:True:=⟨⟩
theorem top.tw8525056165281598093:True:=⟨⟩
theorem top.tw15276081835806400835:True:=⟨⟩
theorem top.tw1496424434756222033:True:=⟨⟩
theorem top.tw8464602749389058697:True:=⟨⟩
theorem top.tw14403426103380558615:True:=⟨⟩
theorem top.tw11487323097842045720:True:=⟨⟩
theorem top.tw16970404784129113309:True:=⟨⟩
theorem top.tw17183626927085625548:True:=⟨⟩
theorem top.tw9540439644754808120:True:=⟨⟩
theorem top.tw325701027894113396:True:=⟨⟩
theorem top.tw2058190040818037504:True:=⟨⟩
theorem top.tw1709199611977835394:True:=⟨⟩
theorem top.tw6203877030728667555:True:=⟨⟩
theorem top.tw2532183162996157512:True:=⟨⟩
theorem top.tw18406190115487479641:True:=⟨⟩
theorem top.tw7567165803220911316:True:=⟨⟩
theorem top.tw14433615092557509415:True:=⟨⟩
theorem top.tw3734097135821381683:True:=⟨⟩
theorem top.tw17486517844360885448:True:=⟨⟩
theorem top.tw181148784610335781:True:=⟨⟩
theorem top.tw17720068831039047267:True:=⟨⟩
theorem top.tw10150841575051346588:True:=⟨⟩
theorem top.tw944256720087311168:True:=⟨⟩
theorem top.tw490107781044202391:True:=⟨⟩
theorem top.tw7494371352935567935:True:=⟨⟩
theorem top.tw8432852734657383213:True:=⟨⟩
theorem top.tw9062527665077697634:True:=⟨⟩
theorem top.tw7169288159835523660:True:=⟨⟩
theorem top.tw4356378928960863874:True:=⟨⟩
theorem top.tw10762427235269020296:True:=⟨⟩
theorem top.tw13350980499027453880:True:=⟨⟩
theorem top.tw2843268139238364847:True:=⟨⟩
theorem top.tw8708621691826586150:True:=⟨⟩
theorem top.tw15179066919290366404:True:=⟨⟩
theorem top.tw17995580087040710135:True:=⟨⟩
theorem top.tw2173612809583765888:True:=⟨⟩
theorem top.tw4561158844671109056:True:=⟨⟩
theorem top.tw6183769204509311085:True:=⟨⟩
theorem top.tw13457364720955713546:True:=⟨⟩
theorem top.tw12744332421079344183:True:=⟨⟩
theorem top.tw10476705880334391977:True:=⟨⟩
theorem top.tw7360935395897355803:True:=⟨⟩
theorem top.tw10753131216933889316:True:=⟨⟩
theorem top.tw12359816339013744056:True:=⟨⟩
theorem top.tw10304773355574818972:True:=⟨⟩
theorem top.tw16493140423106005027:True:=⟨⟩
theorem top.tw6174204621023576706:True:=⟨⟩
theorem top.tw12843083837792121615:True:=⟨⟩
theorem top.tw6715247557559319214:True:=⟨⟩
theorem top.tw3346173298411247277:True:=⟨⟩
theorem top.tw17082045657299507438:True:=⟨⟩
theorem top.tw10611451711877044877:True:=⟨⟩
theorem top.tw17508040994529338635:True:=⟨⟩
theorem top.tw7473103189400481370:True:=⟨⟩
theorem top.tw13787949552538515048:True:=⟨⟩
theorem top.tw1202009397182005451:True:=⟨⟩
theorem top.tw10209070706382725253:True:=⟨⟩
theorem top.tw4358691650285988494:True:=⟨⟩
theorem top.tw3703398445531415504:True:=⟨⟩
theorem top.tw5152142093285054322:True:=⟨⟩
theorem top.tw708343306878879310:True:=⟨⟩
theorem top.tw11972609793873917069:True:=⟨⟩
theorem top.tw10000151773839097830:True:=⟨⟩
theorem top.tw16378320045749876460:True:=⟨⟩
theorem top.tw15530085555645645651:True:=⟨⟩
theorem top.tw14754742587949857976:True:=⟨⟩
theorem top.tw12555419031055448435:True:=⟨⟩
theorem top.tw9709091215978847155:True:=⟨⟩
theorem top.tw3224662581019018422:True:=⟨⟩
theorem top.tw5447724677579432976:True:=⟨⟩
theorem top.tw13612888447903221690:True:=⟨⟩
theorem top.tw13470704340632559980:True:=⟨⟩
theorem top.tw10271058457205765910:True:=⟨⟩
theorem top.tw8011807031885261350:True:=⟨⟩
theorem top.tw16606018177974863750:True:=⟨⟩
theorem top.tw18134916490591298656:True:=⟨⟩
theorem top.tw17970414323024583786:True:=⟨⟩
theorem top.tw18106397260369847346:True:=⟨⟩
theorem top.tw1132053622761179395:True:=⟨⟩
theorem top.tw10141865158089822187:True:=⟨⟩
theorem top.tw1907660154640404895:True:=⟨⟩
theorem top.tw15104300654673109495:True:=⟨⟩
theorem top.tw3848417338562682548:True:=⟨⟩
theorem top.tw2459273368520916753:True:=⟨⟩
theorem top.tw3037773497552543465:True:=⟨⟩
theorem top.tw3951318577535127796:True:=⟨⟩
theorem top.tw3973854388979629583:True:=⟨⟩
theorem top.tw5438275306746938365:True:=⟨⟩
theorem top.tw15438081327507635518:True:=⟨⟩
theorem top.tw536803706853657370:True:=⟨⟩
theorem top.tw5747984561631210852:True:=⟨⟩
theorem top.tw6136537534720721980:True:=⟨⟩
theorem top.tw12216943602677884022:True:=⟨⟩
theorem top.tw17387093387449987635:True:=⟨⟩
theorem top.tw5981735147869792024:True:=⟨⟩
theorem top.tw81772323286808114:True:=⟨⟩
theorem top.tw18178861665737757065:True:=⟨⟩
theorem top.tw6233042368526273865:True:=⟨⟩
theorem top.tw9710472976345978675:True:=⟨⟩
theorem top.tw5088212886959746038:True:=⟨⟩
theorem top.tw6998095514125026904:True:=⟨⟩
theorem top.tw2825663273701143045:True:=⟨⟩
theorem top.tw17884016658146628497:True:=⟨⟩
theorem top.tw10375015436112958005:True:=⟨⟩
theorem top.tw16999540093264088150:True:=⟨⟩
theorem top.tw16757837090424149463:True:=⟨⟩
theorem top.tw9454247317032761345:True:=⟨⟩
theorem top.tw520769046583192414:True:=⟨⟩
theorem top.tw13064515153410010827:True:=⟨⟩
theorem top.tw2031168391782037587:True:=⟨⟩
theorem top.tw13350696996943827867:True:=⟨⟩
theorem top.tw13790853850494499913:True:=⟨⟩
theorem top.tw9201169265375263813:True:=⟨⟩
theorem top.tw18305795201310230813:True:=⟨⟩
theorem top.tw1270794633727948117:True:=⟨⟩
theorem top.tw12268056824678507761:True:=⟨⟩
theorem top.tw2678565742616173392:True:=⟨⟩
theorem top.tw17490801551658302231:True:=⟨⟩
theorem top.tw10215241748254838605:True:=⟨⟩
theorem top.tw5633613072895788440:True:=⟨⟩
theorem top.tw2186587022839359540:True:=⟨⟩
theorem top.tw7493508265152591696:True:=⟨⟩
theorem top.tw14926763537911541244:True:=⟨⟩
theorem top.tw12805097746503026508:True:=⟨⟩
theorem top.tw10325756141927070261:True:=⟨⟩
theorem top.tw14075600393017398815:True:=⟨⟩
theorem top.tw11987071251158246107:True:=⟨⟩
theorem top.tw6741311807179157745:True:=⟨⟩
theorem top.tw9092913474830259118:True:=⟨⟩
theorem top.tw12626598181475660440:True:=⟨⟩
theorem top.tw7067367649517415538:True:=⟨⟩
theorem top.tw678918350425922230:True:=⟨⟩
theorem top.tw14892623766237675795:True:=⟨⟩
theorem top.tw17876483852679225255:True:=⟨⟩
theorem top.tw14556967029381680528:True:=⟨⟩
theorem top.tw10755204175162815595:True:=⟨⟩
theorem top.tw5015957572073571753:True:=⟨⟩
theorem top.tw9600408958321216034:True:=⟨⟩
theorem top.tw1906309590840183704:True:=⟨⟩
theorem top.tw7215231071663758880:True:=⟨⟩
theorem top.tw16986057357562857111:True:=⟨⟩
theorem top.tw16354441263580351735:True:=⟨⟩
theorem top.tw15894399724522964487:True:=⟨⟩
theorem top.tw3478507057714027010:True:=⟨⟩
theorem top.tw5148066052227555432:True:=⟨⟩
theorem top.tw17106287875927644401:True:=⟨⟩
theorem top.tw6789009648750997989:True:=⟨⟩
theorem top.tw665305837562067500:True:=⟨⟩
theorem top.tw12293448167491514632:True:=⟨⟩
theorem top.tw6979260324674004891:True:=⟨⟩
theorem top.tw4779602780188301861:True:=⟨⟩
theorem top.tw10489881607586626982:True:=⟨⟩
theorem top.tw7025352116649056337:True:=⟨⟩
theorem top.tw17428317208339660896:True:=⟨⟩
theorem top.tw11508622219647577818:True:=⟨⟩
theorem top.tw8748718884265239803:True:=⟨⟩
theorem top.tw11674742375332813423:True:=⟨⟩
theorem top.tw10510781333263205275:True:=⟨⟩
theorem top.tw8856036827258601485:True:=⟨⟩
theorem top.tw12051856599038575977:True:=⟨⟩
theorem top.tw12677639898438636530:True:=⟨⟩
theorem top.tw16155562966025467390:True:=⟨⟩
theorem top.tw14179958063155065553:True:=⟨⟩
theorem top.tw16274422952707480473:True:=⟨⟩
theorem top.tw12928604479176903323:True:=⟨⟩
theorem top.tw12993393966586794319:True:=⟨⟩
theorem top.tw4847227669690319864:True:=⟨⟩
theorem top.tw16364859902786545777:True:=⟨⟩
theorem top.tw3703912465997261676:True:=⟨⟩
theorem top.tw7298211664984960474:True:=⟨⟩
theorem top.tw17130227693291340670:True:=⟨⟩
theorem top.tw2124533867104040208:True:=⟨⟩
theorem top.tw7555788285894137762:True:=⟨⟩
theorem top.tw14918657019616035990:True:=⟨⟩
theorem top.tw16302189405121905674:True:=⟨⟩
theorem top.tw5729745157918896202:True:=⟨⟩
theorem top.tw14316322753584727097:True:=⟨⟩
theorem top.tw5837865806460918654:True:=⟨⟩
theorem top.tw13961821577040325202:True:=⟨⟩
theorem top.tw16538046557401838581:True:=⟨⟩
theorem top.tw626149923956320135:True:=⟨⟩
theorem top.tw3715125932595375261:True:=⟨⟩
theorem top.tw10184159751828612529:True:=⟨⟩
theorem top.tw13221474131959919858:True:=⟨⟩
theorem top.tw18230934574480235579:True:=⟨⟩
theorem top.tw15977480423014482849:True:=⟨⟩
theorem top.tw17834423055500728160:True:=⟨⟩
theorem top.tw3737092827008854417:True:=⟨⟩
theorem top.tw10051035586589366927:True:=⟨⟩
theorem top.tw5961517122022696431:True:=⟨⟩
theorem top.tw4300254131490508498:True:=⟨⟩
theorem top.tw12605521951455887554:True:=⟨⟩
theorem top.tw3591528598837938010:True:=⟨⟩
theorem top.tw9625230811557485409:True:=⟨⟩
theorem top.tw9007187541838641408:True:=⟨⟩
theorem top.tw6565141054007306955:True:=⟨⟩
theorem top.tw9629323845154466031:True:=⟨⟩
theorem top.tw16670747933352122998:True:=⟨⟩
theorem top.tw5201694898761079571:True:=⟨⟩
theorem top.tw1383960294148782743:True:=⟨⟩
theorem top.tw5616788035221139965:True:=⟨⟩
theorem top.tw16638610986525751341:True:=⟨⟩
theorem top.tw15747736695183898197:True:=⟨⟩
theorem top.tw6633638283438119252:True:=⟨⟩
theorem top.tw4146725247025032527:True:=⟨⟩
theorem top.tw11572111180275214355:True:=⟨⟩
theorem top.tw13294651291892747998:True:=⟨⟩
theorem top.tw11421662989391217233:True:=⟨⟩
theorem top.tw3553350837345755414:True:=⟨⟩
theorem top.tw16475489246628699285:True:=⟨⟩
theorem top.tw15638574076032254683:True:=⟨⟩
theorem top.tw18131894101800294808:True:=⟨⟩
theorem top.tw5534654762937032736:True:=⟨⟩
theorem top.tw4285722769654724837:True:=⟨⟩
theorem top.tw7430941349426302570:True:=⟨⟩
theorem top.tw814143626799000608:True:=⟨⟩
theorem top.tw8471810450847980311:True:=⟨⟩
theorem top.tw14060043875824209832:True:=⟨⟩
theorem top.tw17948007346036011693:True:=⟨⟩
theorem top.tw13045462434218280821:True:=⟨⟩
theorem top.tw15352428651415293685:True:=⟨⟩
theorem top.tw7607171497304258000:True:=⟨⟩
theorem top.tw12891618694953958263:True:=⟨⟩
theorem top.tw10835283265360406922:True:=⟨⟩
theorem top.tw14714200439050820607:True:=⟨⟩
theorem top.tw10815754745809851965:True:=⟨⟩
theorem top.tw18411503378437029776:True:=⟨⟩
theorem top.tw17761583278045253839:True:=⟨⟩
theorem top.tw6473416468275681636:True:=⟨⟩
theorem top.tw2742400303160554442:True:=⟨⟩
theorem top.tw2390321738916012542:True:=⟨⟩
theorem top.tw11942759146423067011:True:=⟨⟩
theorem top.tw12745399379327383730:True:=⟨⟩
theorem top.tw3421363785454103130:True:=⟨⟩
theorem top.tw8510952907010044682:True:=⟨⟩
theorem top.tw9298004865840787183:True:=⟨⟩
theorem top.tw16130458764514570213:True:=⟨⟩
theorem top.tw6986792338942341288:True:=⟨⟩
theorem top.tw15409862079407678573:True:=⟨⟩
theorem top.tw13328034432266952855:True:=⟨⟩
theorem top.tw1256501354222754481:True:=⟨⟩
theorem top.tw8876392290816725482:True:=⟨⟩
theorem top.tw15968693567380849981:True:=⟨⟩
theorem top.tw17371567254511631791:True:=⟨⟩
theorem top.tw16718771766187595327:True:=⟨⟩
theorem top.tw11123022429692411069:True:=⟨⟩
theorem top.tw17195100299048269596:True:=⟨⟩
theorem top.tw17870716199811601467:True:=⟨⟩
theorem top.tw7818407478763246178:True:=⟨⟩
theorem top.tw6387474787400901895:True:=⟨⟩
theorem top.tw727307439833339266:True:=⟨⟩
theorem top.tw1880862225633710185:True:=⟨⟩
theorem top.tw16126187623623717532:True:=⟨⟩
theorem top.tw8561882263934050757:True:=⟨⟩
theorem top.tw1205300974904534110:True:=⟨⟩
theorem top.tw8648676592023223974:True:=⟨⟩
theorem top.tw5425060295598968029:True:=⟨⟩
theorem top.tw9515872314998021679:True:=⟨⟩
theorem top.tw14124115362645966802:True:=⟨⟩
theorem top.tw17766975901093141987:True:=⟨⟩
theorem top.tw15769138564818942050:True:=⟨⟩
theorem top.tw15440083727760513396:True:=⟨⟩
theorem top.tw10421932359841884010:True:=⟨⟩
theorem top.tw16935642183345931126:True:=⟨⟩
theorem top.tw1877633103465907576:True:=⟨⟩
theorem top.tw1354547793471785592:True:=⟨⟩
theorem top.tw1857844179572870231:True:=⟨⟩
theorem top.tw16624992058427758950:True:=⟨⟩
theorem top.tw10845836190352346787:True:=⟨⟩
theorem top.tw1537663609479678028:True:=⟨⟩
theorem top.tw17728291064479995148:True:=⟨⟩
theorem top.tw16042653630311630441:True:=⟨⟩
theorem top.tw1965548522181489884:True:=⟨⟩
theorem top.tw174608929583880089:True:=⟨⟩
theorem top.tw13576554709588866993:True:=⟨⟩
theorem top.tw7029149830054407918:True:=⟨⟩
theorem top.tw18154499757341482236:True:=⟨⟩
theorem top.tw4135012713791623128:True:=⟨⟩
theorem top.tw66310420103869109:True:=⟨⟩
theorem top.tw9332288820214974120:True:=⟨⟩
theorem top.tw5074981210616091618:True:=⟨⟩
theorem top.tw4080974910205629970:True:=⟨⟩
theorem top.tw12901981390630445424:True:=⟨⟩
theorem top.tw2847590417677406291:True:=⟨⟩
theorem top.tw643457376458576901:True:=⟨⟩
theorem top.tw16755758252483531876:True:=⟨⟩
theorem top.tw11605190798462803:True:=⟨⟩
theorem top.tw14890431403400256923:True:=⟨⟩
theorem top.tw5301872647305120685:True:=⟨⟩
theorem top.tw5692313511572592699:True:=⟨⟩
theorem top.tw5187232199162213377:True:=⟨⟩
theorem top.tw3117429252539467097:True:=⟨⟩
theorem top.tw9263980581303461995:True:=⟨⟩
theorem top.tw13362638003374514776:True:=⟨⟩
theorem top.tw2167284312673524829:True:=⟨⟩
theorem top.tw11473549551943233250:True:=⟨⟩
theorem top.tw9548116872026851275:True:=⟨⟩
theorem top.tw11813432439359262595:True:=⟨⟩
theorem top.tw7516556085045824255:True:=⟨⟩
theorem top.tw16343458017427171125:True:=⟨⟩
theorem top.tw5610427021895498081:True:=⟨⟩
theorem top.tw18075333693788313813:True:=⟨⟩
theorem top.tw15089751137120053032:True:=⟨⟩
theorem top.tw9767823394254817306:True:=⟨⟩
theorem top.tw1215964859883860923:True:=⟨⟩
theorem top.tw8053444303433898870:True:=⟨⟩
theorem top.tw6843396296170456375:True:=⟨⟩
theorem top.tw1725240627391621855:True:=⟨⟩
theorem top.tw13140326828786542489:True:=⟨⟩
theorem top.tw12480099839092924133:True:=⟨⟩
theorem top.tw15829578809876464852:True:=⟨⟩
theorem top.tw16135901030857960676:True:=⟨⟩
theorem top.tw7281760429439090794:True:=⟨⟩
theorem top.tw8431511291280310594:True:=⟨⟩
theorem top.tw14646490398715655967:True:=⟨⟩
theorem top.tw14854695082214763653:True:=⟨⟩
theorem top.tw12074596839219505546:True:=⟨⟩
theorem top.tw8747589671234852327:True:=⟨⟩
theorem top.tw4525032463667256395:True:=⟨⟩
theorem top.tw1455104395854409812:True:=⟨⟩
set_option linter.unusedVariables false
set_option Elab.async true
set_option maxRecDepth 100000
set_option maxHeartbeats 8000000
set_option tactic.hygienic true
set_option backward.match.sparseCases true
theorem top:PySem.Challenge.rw_rg0124_01.Holds:=by
 (w_on;o_law;k_head;(case hw=>w_witness2);skip)
 w_strict (
  k_fill
  intro w s₀ s₁ mg mb G Y fa o pm cd doc dV kV ho hd1 hcd hD hmg hg args vals as hpre hlay hrd hwl hlo
  have KX:=kIn_of Y
  refine Ground.open G ?_
  intro T B D TE TW
  try (refine guard_noD D (by decide+kernel) ?_;clear D)
  wrow_args hpre hlay hrd hwl hlo
  all_goals (first | refine callC_kw (enter_call ?_) | refine enter_call ?_)
  rename_i ns _ _ _ _ _ _ _ sa us _ hL _ _ _ hI _ hc _
  have h63:ns.length≤63:=by omega
  have hfa:Value.ref fa= .ref 545:=by
   have h2:mg (C7 "law")=some (.ref 545):=mg_of KX (Top.g T) (by kernel_rfl)
   exact G9 (hmg.symm.trans h2)
  clear ho hd1 hcd hD hmg
  cases hfa
  have hul:us.length=ns.length:=IntsAre.length hI
  have F:Facts ⟨PySem.Challenge.rw_rg0124_01.row.prog,w,s₁.heap,s₁.os,_,flA,mg,mb,_,_,KX,topRead_of T⟩ sa ns:=by
   refine ⟨by kernel_rfl,fun _=>rfl,?_,us,hL,hI,by omega⟩
   refine (?_:allR _ _ _ _)
   repeat (refine allR_cons ⟨?_,?_,?_⟩ ?_;(· kernel_rfl);(· (repeat intro _);show bindArgs _ _=pure _;kernel_rfl);(· intro _ _ _ _ _;kernel_rfl))
   exact allR_nil
  have S:RS ⟨PySem.Challenge.rw_rg0124_01.row.prog,w,s₁.heap,s₁.os,_,flA,mg,mb,_,_,KX,topRead_of T⟩ ⟨[],[]⟩ [] s₁:=⟨⟨rfl,N4,fun i o e=>(nomatch e),fun a ha=>(nomatch ha),fun a ha=>(nomatch ha),fun b o e=>e,B2 _⟩,hg,rfl⟩
  have hN:NC _ _ 67 _:=@all_nc _ _ _ F 67 545
  refine @hN _ _ _ _ [.gl (.ref sa)] [.ref sa] (fun v _=>v= .bool true) ⟨rfl,by decide+kernel,by decide+kernel⟩ S (.cons (v:= .gl (.ref sa)) (u:= .ref sa) rfl .nil) (ends sa ns h63 (fun v _=>v= .bool true) fun _=>rfl) _ ?_
  intro v hp u ρ' s' q S' X' r'
  subst q
  cases show u= .bool true from r'
  exact ⟨.inl ⟨_,_,[],rfl,fun _=>rfl,.bool true,by kernel_rfl,fun _=>⟨N4,fun a ha=>(nomatch ha)⟩⟩,.of_keep fun b o e=>S'.1.base b o e,S'.2.2,.of_eq S'.2.1⟩)
end Mine.Internal
theorem PySem.Challenge.cw_rg0124_01_holds : PySem.Challenge.rw_rg0124_01.Holds :=
 Mine.Internal.top
