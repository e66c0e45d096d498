import PyProof.Rows.All
import Wide.All
import OpenK.AllK
import Wide.FinOn
import HandS.SetFor
import PyProof.Rows.SetFrom
import HandS.SortInts
import HandS.RevRange
import PyProof.CollectIter
import HandS.Base
import HandS.Call
import HandS.List
import HandS.Comp
import HandS.Ends
import HandS.Words
import HandS.WordsList
import HandS.Style
import HandS.Deep
import HandS.IsInst
import HandS.Dict
import HandS.Iter
import HandS.Conv
import HandS.Defaults
import HandS.TupSets
import HandS.HeadHook4
import HandS.ExcInit
import HandS.ExcField
import HandS.ExcIs
import HandS.ExcCtx
import HandS.Hot
import HandS.HotCalls
import HandS.CallLocal
import KE.KStateDown
import Lean
import HandS.More
import HandS.WordsExc
import HandS.Head0
import HandS.Head1
import HandS.Head2
import HandS.HeadEnd
import HandS.HeadHook1
import HandS.HeadHook2
import PySem.Challenge.RW_jostle_k09_refused
set_option Elab.async false
set_option linter.all false
set_option maxRecDepth 100000
set_option maxHeartbeats 4000000
/-! S0: set(xs), xs a list of ints of any number: its members -/
namespace SLI
open PySem PySem.Spec PyProof.Rows L2

def ns0 (w : World) : Obj := { cls := .type "set", dict := none, data := .set #[] 0 (.fresh 0 0 (!w.params.followText "set-order")) }
/-- the members of the set at a, told by a list -/
def Mem (w : World) (h : Heap) (a : Addr) (ns : List Int) : Prop := ∃ c, c ≤ ns.length ∧ SetR w h a (fun j => decide (j ∈ ns)) c
section
variable {P : Program} {w : World} {A : Around} {E : Value → Shared → Prop} {s : Shared}
theorem vals_at {us : Array Value} {ns : List Int} (hi : IntsAre us.toList ns) : ∀ (i : Nat) (v : Value), us[i]? = some v → ∃ k t, ns[i]? = some k ∧ v = .int k t := fun i v e => by
  have le := IntsAre.length hi
  obtain ⟨t, q⟩ := IntsAre.int_at hi i v (by rw [Array.getElem?_toList]; exact e)
  have lt : i < ns.length := by
    rw [← le, Array.length_toList]
    exact (Array.getElem?_eq_some_iff.mp e).1
  exact ⟨ns[i], t, List.getElem?_eq_getElem lt, by rw [q, List.getD_eq_getElem?_getD, List.getElem?_eq_getElem lt]; rfl⟩
set_option maxHeartbeats 6000000 in
theorem set_of_list {l : Addr} {us : Array Value} {ns : List Int} {Q : Value → Shared → Prop} (calm : A.handled = none) (hl : s.heap.IsList l us) (hi : IntsAre us.toList ns) (few : ns.length + 1 < scanBound)
    (q : ∀ h' tk, Mem w h' s.heap.objs.size ns → (∀ b o, s.heap.get? b = some o → h'.get? b = some o) → Q (.ref s.heap.objs.size) { s with heap := h', toks := tk }) : wpAny (model P w) A (call (.type "set") [.ref l]) Q E s := by
  have sz : us.size = ns.length := by
    have z := IntsAre.length hi
    rwa [Array.length_toList] at z
  have ⟨c, tl, hmro⟩ := F.called_set.mro
  have a1 := F.called_set.made
  have a2 := F.called_set.sub
  apply wpAny_call
  apply codeAny_of_tree
  show wpAny _ _ (callAny (.type "set") _) _ _ _
  refine wpAny_pure ⟨Code.quiet_builtin _ (by decide +kernel), ?_⟩
  refine codeAny_builtin F.entry_type_call ?_
  rw [Around.under_plain (weight_type_call_type "set" [.ref l] []) rfl]
  have a3 := F.called_set.notType
  have a4 := F.called_set.canCreate
  have a5 := F.typeCall_set_1 (.ref l)
  repeat (any_goals (first | assumption | wp_step))
  apply codeAny_mono (code_set_led1 (.ref l) (E := E) (Q₁ := fun ob s₁ => ob = .ref s.heap.objs.size ∧ s₁ = { s with heap := s.heap.push (ns0 w) }) ⟨rfl, rfl⟩)
  intro r s₁ hr
  match r, hr with
  | .error e, hr => exact hr
  | .ok (.ret ob), hr =>
    obtain ⟨rfl, rfl⟩ := hr
    have at0 : (s.heap.push (ns0 w)).get? s.heap.objs.size = some (ns0 w) := Heap.get?_push_size _ rfl
    have ty0 : Shared.TypeIs { s with heap := s.heap.push (ns0 w) } (.ref s.heap.objs.size) "set" := ⟨_, at0, rfl⟩
    have b1 := F.called_set.init.lookup
    have b2 := F.called_set.init.bind (.ref s.heap.objs.size)
    repeat (any_goals (first | assumption | wp_step))
    refine codeAny_mono (codeAny_call_builtin (R := wants (fun r s₂ => r = .none ∧ ∃ h' tk, s₂ = { s with heap := h', toks := tk } ∧ Mem w h' s.heap.objs.size ns ∧ (∀ b o, s.heap.get? b = some o → h'.get? b = some o)) E) F.called_set.init.plain F.entry_set_init (check_set_init_1 ty0 ?_)) ?_
    · have ⟨ol, g0, g1, n0, g2⟩ := hl
      obtain ⟨oc, od, oda, osl⟩ := ol
      dsimp only at g1 g2
      subst g1
      subst g2
      have low : l < s.heap.objs.size := Heap.lt_size g0
      have gl : (s.heap.push (ns0 w)).get? l = some { cls := .type "list", dict := od, data := .seq us n0, slots := osl } := Heap.get?_push_of_some _ g0
      have gL : (s.heap.push (ns0 w)).IsList l us := ⟨_, gl, rfl, n0, rfl⟩
      have c1 := F.sub_list_set
      have c2 := F.sub_list_frozenset
      have c3 : (Value.type "list" == Value.type "dict") = false := by decide
      have size1 : (s.heap.push (ns0 w)).objs.size = s.heap.objs.size + 1 := Heap.size_push ..
      have far : l ≠ (s.heap.push (ns0 w)).objs.size := by rw [size1]; exact Nat.ne_of_lt (Nat.lt_succ_of_lt low)
      unfold Builtin.«set.__init__» noKeywords Builtin.Frozenset.updateFrom
      generalize hit : pyIter = it
      wp_walk
      subst hit
      apply wpAny_pyIter_list gL
      refine wpAny_bind (wpAny_runValue ?_)
      have calm3 : A.in1.in1.in1.handled = none := by simp [calm]
      refine set_update_ints ((Walks.list calm3 _ l far us).toS) s.heap.objs.size ?_ ns sz few (vals_at hi) (us.size - 0) 0 _ (by omega) (Nat.zero_le _) ⟨⟨_, Heap.get?_push_size _ rfl, rfl, rfl⟩, gL.push _⟩ ⟨0, Nat.le_refl 0, ?_⟩ ?_
      · rw [size1]
        simp only [List.mem_cons, List.not_mem_nil, or_false, not_or]
        exact ⟨Nat.ne_of_lt (Nat.lt_succ_self _), (Nat.ne_of_lt low).symm⟩
      · exact setR_new_at (Heap.get?_push_of_some _ at0)
      · intro t c mv hc R
        have eg : t.gens = s.gens := mv.gens
        have ed : t.drawn = s.drawn := mv.drawn
        have eo : t.os = s.os := mv.os
        obtain ⟨h', g', d', tk', o'⟩ := t
        dsimp only at eg ed eo
        subst eg ed eo
        show wpAny _ _ _ _ _ _
        refine wpAny_pure ?_
        show wpAny _ _ (ret Value.none) _ _ _
        refine wpAny_pure ⟨rfl, h', tk', rfl, ⟨c, by omega, R⟩, fun b o e => ?_⟩
        have lo : b < s.heap.objs.size := Heap.lt_size e
        refine mv.heap b o ?_ (Heap.get?_push_of_some _ (Heap.get?_push_of_some _ e))
        rw [size1]
        simp only [List.mem_cons, List.not_mem_nil, or_false, not_or]
        exact ⟨Nat.ne_of_lt lo, Nat.ne_of_lt (Nat.lt_succ_of_lt lo)⟩
    · intro r2 s2 hr2
      match r2, hr2 with
      | .error e, hr2 => exact hr2
      | .ok (.ret u), hr2 =>
        obtain ⟨rfl, h', tk, rfl, R, k⟩ := hr2
        repeat (any_goals (first | assumption | wp_step))
        exact q h' tk R k
      | .ok (.next), hr2 => exact hr2.elim
      | .ok (.brk), hr2 => exact hr2.elim
      | .ok (.cont), hr2 => exact hr2.elim
end
end SLI
/-! S1: sorted(set(xs)), ints, any number of them -/
namespace SLI
open PySem PySem.Spec PyProof.Rows L2

section
variable {P : Program} {w : World} {A : Around} {E : Value → Shared → Prop} {s : Shared}
theorem sorted_members {a : Addr} {ns : List Int} {Q : Value → Shared → Prop} (R : Mem w s.heap a ns) (calm : A.handled = none) (small : ns.length ≤ 1000)
    (q : ∀ s' p us ep xs, (∀ b o, s.heap.get? b = some o → s'.heap.get? b = some o) → s'.gens = s.gens → s'.os = s.os → s.heap.objs.size ≤ p → s'.heap.get? p = some (seqObj "list" us ep) → IntsAre us.toList xs → xs.Pairwise (· < ·) → (∀ k, k ∈ xs ↔ k ∈ ns) → xs.length ≤ ns.length → Q (.ref p) s') :
    wpAny (model P w) A (call (.builtin "sorted") [.ref a]) Q E s := by
  have ⟨c, hc, o, es, ep, t, g0, g1, g2, g3, g4, g5, g6, g7, g8, g9, g10⟩ := R
  apply Calls.call_function_entry kind_sorted plain_sorted entry_sorted (args_sorted1 _)
  unfold Builtin.«sorted»
  refine wpAny_bind (m := checkCount "sorted" 1 1 _) (wpAny_pure ?_)
  apply wpAny_bind
  apply collect_set (A := A.in1) calm ⟨o, g0, g1.1, g2⟩ g7 g6 g9 g10
  intro s1 vs k1 z1 e1 e2 pm
  have len : vs.length = c := by rw [pm.length_eq, List.length_map, Array.length_toList, g8]
  have hints : IntsAre vs (vs.map Builtin.Re.reRawOf) := by
    refine ints_of vs fun v hv => ?_
    have ⟨e, he, r⟩ := List.mem_map.mp (pm.mem_iff.mp hv)
    have ⟨k, tk, h1, _⟩ := g3 e he
    exact ⟨k, tk, r ▸ h1⟩
  have keys : (vs.map Builtin.Re.reRawOf).Perm (es.toList.map keyOf) := by
    have z := pm.map Builtin.Re.reRawOf
    rwa [List.map_map] at z
  have fits : vs.length ≤ sizeLine := by
    rw [len, sizeLine_eq]
    omega
  refine wpAny_bind (wpAny_newList ?_ fits)
  have at1 : (s1.heap.push (seqObj "list" vs.toArray 0)).get? s1.heap.objs.size = some (seqObj "list" vs.toArray 0) := Heap.get?_push_size _ rfl
  refine wpAny_bind (wpAny_holding (wpAny_call_entry slot_list_sort ⟨_, at1, rfl⟩ entry_list_sort (SrtO.list_sort_ord SrtO.swo_int at1 fits (fun two => SrtO.ints_sortable hints two) fun out h1 h2 => ⟨_, rfl, ?_⟩) (args_list_sort _)))
  have ⟨i1, i2, i3⟩ := SrtO.ints_out hints h1 h2
  have ⟨ep2, at2⟩ := sortedHeap_at (vs := vs) (out := out.toArray) at1
  have all := i2.trans keys
  have nd := all.nodup_iff.mpr g4
  refine wpAny_pure ⟨_, rfl, q _ s1.heap.objs.size out.toArray ep2 _ (fun b u e => ?_) e1 e2 z1 at2 (by simpa using i1) (lt_of_le_nodup _ i3 nd) (fun k => ?_) ?_⟩
  · have old := k1 b u e
    have low := Heap.lt_size old
    show (sortedHeap (s1.heap.push (seqObj "list" vs.toArray 0)) s1.heap.objs.size vs out.toArray).get? b = some u
    rw [sortedHeap_old (Nat.ne_of_lt low) (by rw [size_push']; exact Nat.lt_succ_of_lt low)]
    exact Heap.get?_push_of_some _ old
  · rw [all.mem_iff, ← g5 k, decide_eq_true_eq]
  · rw [all.length_eq, List.length_map, Array.length_toList, g8]
    exact hc
end
section
variable {X : Cx}
/-- sorted(set(a)): the members, rising -/
def tSS (K : PySem.W.Frag) (ta : TE) : TE := fun σ H Q => ta σ H fun x H1 => ∃ (l : Addr) (ns : List Int), x = V.ref l ∧ SqL K H1 l (ns.map V.int) ∧ ns.length ≤ 1000 ∧ ∀ (xs : List Int) (p : Addr), xs.Pairwise (· < ·) → (∀ k, k ∈ xs ↔ k ∈ ns) → H1 p = none → Q (.ref p) (upd H1 p (.lst (xs.map V.int)))
theorem pe_ss {a : Expr} {ta : TE} {p p2 q pos : Pos} (hc : X.calm = true) (hg : Gl X "sorted") (hm : X.mg "sorted" = none) (hg2 : Gl X "set") (hm2 : X.mg "set" = none) (ha : PE X a ta)
    (na : starEach [a] X.env = (false, eval a X.env) :: starEach [] X.env := by rfl) : PE X (.Call (.Name "sorted" p) [.Call (.Name "set" p2) [a] [] q] [] pos) (tSS X.K ta) := by
  constructor
  intro pins s σ H Q I h
  apply Call_ (ld_blt I hg hm boot_sorted ?_)
  refine PyProof.Rows.callWith_builtin1 (PyProof.Rows.args_cons ?_ rfl) rfl rfl
  apply Call_ (ld_blt I hg2 hm2 PyProof.Rows.boot_set ?_)
  refine PyProof.Rows.callWith_type1 (PyProof.Rows.args_cons (thn (ha.run pins s σ H _ I h) ?_) na) na rfl
  rintro v s1 ⟨x, H1, I1, r1, l, ns, rfl, hq, small, k⟩
  cases r1
  apply PyProof.Rows.args_nil
  have ⟨its, r, pl, hz⟩ := I1.list hq
  have len : its.length = ns.length := by rw [← r.length, List.length_map]
  have calm := I1.ok.hd hc
  refine set_of_list calm pl.isList (by simpa using r.ints) (by unfold scanBound; omega) fun h' tk R keep => ?_
  apply PyProof.Rows.args_nil
  have I2 : Inv X pins σ H1 { s1 with heap := h', toks := tk } := I1.kept keep
  refine sorted_members R calm small fun s' p us ep xs k2 eg eo lo hp hi up mem le => ?_
  have none : H1 p = none := I2.hok.fresh lo
  have fits : (xs.map V.int).length ≤ sizeLine := by
    rw [List.length_map, sizeLine_eq]
    omega
  have J : Inv X pins σ (upd H1 p (.lst (xs.map V.int))) { s1 with heap := s'.heap, gens := s'.gens, drawn := s'.drawn, toks := s'.toks } :=
    L2.Inv.call (s := { s1 with heap := h', toks := tk }) I2 (ch := []) (Un.laid k2 lo none) (I2.hok.laid k2 lo ⟨fits, us.toList, ep, vals_of_ints hi, hp⟩) (by rw [eg]; exact I2.bare) (fun _ z => nomatch z)
  have es : s' = { s1 with heap := s'.heap, gens := s'.gens, drawn := s'.drawn, toks := s'.toks } := by
    cases s'
    cases eo
    rfl
  rw [es]
  exact ⟨.ref p, _, J, rfl, k xs p up mem none⟩
end
end SLI
/-! S2: list(it), it over numbers -/
namespace SLI
open PySem PySem.Spec PyProof.Rows L2
theorem hint_meets (I : Addr) (a n c : Int) : Meets (Builtin.«range_iterator.__length_hint__» ⟨[.ref I], []⟩) (fun _ R s => s.heap.get? I = some { cls := .type "range_iterator", dict := none, data := .fields #[rawInt a, rawInt n, rawInt c], slots := #[] } ∧ R (.ok (.ret (.int n s.toks))) { s with toks := s.toks + 1 }) :=
  .of_wp fun prog w A R s h => by
    obtain ⟨hp, g, d, tk, os⟩ := s
    obtain ⟨hl, h⟩ := h
    wp_walk
    exact ⟨_, rfl, h⟩
section
variable {P : Program} {w : World} {A : Around} {E : Value → Shared → Prop} {s : Shared} {I : Addr} {a c : Int} {n : Nat}
theorem hint_call {Q : Value → Shared → Prop} {k : Int} (hit : IsRangeIter s.heap I a k c) (h : Q (.int k s.toks) { s with toks := s.toks + 1 }) : wpAny (model P w) A (call (.builtin "range_iterator.__length_hint__") [.ref I]) Q E s :=
  call_meets PySem.F.slot_range_iterator_length_hint ⟨_, hit, rfl⟩ PySem.F.entry_range_iterator_length_hint (PySem.F.args_range_iterator_length_hint_1 _) (hint_meets I a k c) ⟨hit, h⟩
/-- the numbers that it gives, one behind another, into a new list -/
theorem list_of_rit {Q : Value → Shared → Prop} (calm : A.handled = none) (hit : IsRangeIter s.heap I a (n : Int) c) (few : n ≤ 100000)
    (q : ∀ h' tk us ep, (∀ b o, b ≠ I → s.heap.get? b = some o → h'.get? b = some o) → h'.get? s.heap.objs.size = some { cls := .type "list", dict := none, data := .seq us ep, slots := #[] } → ItemsOf (fun i v => ∃ t, v = .int (a + i * c) t) us n → Q (.ref s.heap.objs.size) { s with heap := h', toks := tk }) :
    wpAny (model P w) A (call (.type "list") [.ref I]) Q E s := by
  have hIl : I < s.heap.objs.size := Heap.lt_size hit
  have nSI : s.heap.objs.size ≠ I := Nat.ne_of_gt hIl
  apply callType_codes (Q₁ := fun ob t => ob = .ref s.heap.objs.size ∧ t = { s with heap := s.heap.push { cls := .type "list", data := .seq #[] } }) F.called_list (F.typeCall_list_1 _) F.entry_list_init (code_list_new _ ⟨rfl, rfl⟩)
  rintro ob t ⟨rfl, rfl⟩
  have new0 : (s.heap.push { cls := .type "list", data := .seq #[] }).get? s.heap.objs.size = some { cls := .type "list", data := .seq #[] } := Heap.get?_push_size _ rfl
  refine ⟨⟨_, new0, rfl⟩, F.args_list_init_2 _ _, ?_⟩
  have W := (Walks.range (prog := P) (w := w) (A := A.in1.in1) calm I a c n).toS
  have apart : s.heap.objs.size ∉ [I] := fun h => nSI (List.mem_singleton.mp h)
  show wpAny _ A.in1.in1 (Builtin.List.listItems (.ref s.heap.objs.size) >>= fun old => Builtin.List.listUpdate (.ref s.heap.objs.size) (fun _ => #[]) >>= fun _ => letGo old.toList.reverse >>= fun _ => Builtin.List.listExtendWith (.ref s.heap.objs.size) (.ref I) .none) _ _ _
  apply wpAny_bind
  unfold Builtin.List.listItems
  refine wpAny_bind (wpAny_seqItems new0 rfl (wpAny_pure ?_))
  show wpAny _ _ (updateSeq s.heap.objs.size (fun _ => #[]) >>= fun _ => letGo (#[] : Array Value).toList.reverse >>= fun _ => Builtin.List.listExtendWith (.ref s.heap.objs.size) (.ref I) .none) _ _ _
  refine wpAny_bind (wpAny_updateSeq new0 rfl ?_)
  have new1 := Heap.get?_update_self (Obj.mapSeq (fun _ => (#[] : Array Value))) new0 rfl
  have keep1 : ∀ b o, s.heap.get? b = some o → ((s.heap.push { cls := .type "list", data := .seq #[] }).update s.heap.objs.size (Obj.mapSeq (fun _ => (#[] : Array Value)))).get? b = some o := fun b o e =>
    (Heap.get?_update_other _ _ (Nat.ne_of_gt (Heap.lt_size e))).trans (Heap.get?_push_of_some _ e)
  refine wpAny_bind (wpAny_letGo ?_)
  have it1 := keep1 I _ hit
  generalize ((s.heap.push { cls := .type "list", data := .seq #[] }).update s.heap.objs.size (Obj.mapSeq (fun _ => (#[] : Array Value)))) = h1 at new1 keep1 it1
  unfold Builtin.List.listExtendWith
  refine wpAny_bind (wpAny_typeOf ⟨_, it1, rfl⟩ ?_)
  have q1 : Builtin.List.listSameRef (.ref s.heap.objs.size) (.ref I) = false := by simp [Builtin.List.listSameRef, nSI]
  have q2 : (Value.type "range_iterator" == Value.type "list") = false := by decide
  have q3 : (Value.type "range_iterator" == Value.type "tuple") = false := by decide
  simp only [q1, q2, q3, Bool.or_false, Bool.false_eq_true, if_false]
  have it2 : IsRangeIter h1 I (a + ((0 : Nat) : Int) * c) ((n : Int) - ((0 : Nat) : Int)) c := by
    have e1 : a + ((0 : Nat) : Int) * c = a := by simp
    have e2 : (n : Int) - ((0 : Nat) : Int) = n := by simp
    rw [e1, e2]
    exact it1
  refine wpAny_bind (W.self 0 _ _ _ it2 ?_)
  refine wpAny_bind (wpAny_holding ?_)
  unfold Builtin.List.listLengthHint
  refine wpAny_bind (wpAny_specialOf ⟨_, it1, rfl⟩ F.nolen_ra ?_)
  show wpAny _ A.in1.in1 (specialOf (Value.ref I) (Str.ofString "__length_hint__") >>= _) _ _ _
  refine wpAny_bind (wpAny_specialOf ⟨_, it1, rfl⟩ F.hint_ra ?_)
  generalize hid : ("range_iterator.__length_hint__" : String) = id0
  wp_delta
  rw [show splitId id0 = some ("range_iterator", "__length_hint__") from by subst hid; decide +kernel]
  subst hid
  refine wpAny_bind (wpAny_isInstance (b := true) ⟨_, it1, rfl⟩ (by rw [isSubtype_type]; kernel_rfl) ?_)
  show wpAny _ _ (call (.builtin "range_iterator.__length_hint__") [.ref I] >>= _) _ _ _
  refine wpAny_bind (hint_call it1 ?_)
  refine wpAny_bind (m := asInt? (.int (n : Int) _)) (wpAny_pure ?_)
  dsimp only
  have short : Builtin.List.listTooLong ((n : Int).toNat) = false := by
    rw [Int.toNat_natCast]
    simp [Builtin.List.listTooLong, sizeLine]
    omega
  rw [if_neg (by rw [short]; decide)]
  refine wpAny_pure ?_
  rw [if_neg (by decide)]
  refine wpAny_pure ⟨plainId_quiet F.plain_extend_loop _, ?_⟩
  refine codeAny_extend_loopS W (by rw [sizeLine_eq]; omega) _ apart _ n 0 _ #[] 0 rfl (Nat.zero_le _) it2 new1 (ItemsOf.nil _) fun t us ep mv at' its => ?_
  refine ⟨rfl, ?_⟩
  rw [Moved.eq_with mv]
  refine q t.heap t.toks us ep (fun b o ne e => mv.heap b o (fun m => ?_) (keep1 b o e)) at' its
  rcases List.mem_cons.mp m with z | z
  · exact absurd (Heap.lt_size e) (by rw [z]; exact Nat.lt_irrefl _)
  · exact ne (List.mem_singleton.mp z)
end
section
variable {X : Cx}
/-- list(reversed(range(..))) -/
def tLrv (tr : L2.St → Hp → (Int → Int → Hp → Prop) → Prop) : TE := fun σ H Q => tr σ H fun a b H1 => -(2 ^ 62) ≤ a ∧ a < 2 ^ 62 ∧ -(2 ^ 62) ≤ b ∧ b < 2 ^ 62 ∧ (b - a).toNat ≤ 100000 ∧ ∀ p, H1 p = none → Q (.ref p) (upd H1 p (.lst ((List.range (b - a).toNat).map fun i => V.int (a + (((b - a).toNat : Nat) : Int) - 1 + (i : Nat) * (-1)))))
theorem vals_its {lo c : Int} {us : Array Value} {n : Nat} (h : ItemsOf (fun i v => ∃ t, v = .int (lo + i * c) t) us n) : Vals ((List.range n).map fun i => V.int (lo + (i : Nat) * c)) us.toList := by
  refine vals_of_at ?_ fun j x u hx hu => ?_
  · rw [List.length_map, List.length_range, Array.length_toList, h.1]
  · rw [List.getElem?_map] at hx
    cases e : (List.range n)[j]? with
    | none => rw [e] at hx; cases hx
    | some i =>
      rw [e] at hx
      cases hx
      have ej : i = j := by
        have z := List.getElem?_eq_some_iff.mp e
        obtain ⟨_, z⟩ := z
        rw [List.getElem_range] at z
        exact z.symm
      subst ej
      rw [Array.getElem?_toList] at hu
      obtain ⟨t, et⟩ := h.2 i u hu
      rw [et]
      exact ⟨t, rfl⟩
theorem pe_lrv {e : Expr} {tr : L2.St → Hp → (Int → Int → Hp → Prop) → Prop} {p p2 pos pos2 : Pos} (hc : X.calm = true) (hg : Gl X "list") (hm : X.mg "list" = none) (hg2 : Gl X "reversed") (hm2 : X.mg "reversed" = none) (he : PRg X e tr)
    (na : starEach [e] X.env = (false, eval e X.env) :: starEach [] X.env := by rfl) (nb : starEach [.Call (.Name "reversed" p2) [e] [] pos2] X.env = (false, eval (.Call (.Name "reversed" p2) [e] [] pos2) X.env) :: starEach [] X.env := by rfl) :
    PE X (.Call (.Name "list" p) [.Call (.Name "reversed" p2) [e] [] pos2] [] pos) (tLrv tr) := by
  constructor
  intro pins s σ H Q I h
  apply Call_ (ld_blt I hg hm boot_list ?_)
  refine PyProof.Rows.callWith_type1 (args_cons ?_ nb) nb rfl
  apply Call_ (ld_blt I hg2 hm2 PyProof.Rows.boot_reversed ?_)
  refine PyProof.Rows.callWith_type1 (args_cons (thn (he pins s σ H _ I h) ?_) na) na rfl
  rintro u s1 ⟨r, a, b, t, w1, v, H1, eu, hr, I1, b1, b2, b3, b4, few, q⟩
  subst eu
  apply args_nil
  refine call_reversed_range hr (smallRev_one b1 b2 b3 b4) ?_
  apply args_nil
  have hn : Builtin.Range.rangeSize a b 1 = (((b - a).toNat : Nat) : Int) := rangeSize_nat a b
  generalize (b - a).toNat = n at *
  have I2 : L2.Inv X pins σ H1 { s1 with heap := s1.heap.push (rngRevObj a b 1) } := I1.kept (t' := s1.toks) fun b o q => Heap.get?_push_of_some _ q
  have hit : IsRangeIter (s1.heap.push (rngRevObj a b 1)) s1.heap.objs.size (a + (n : Int) - 1) (n : Int) (-1) := by
    have e1 : a + (n : Int) - 1 = a + (Builtin.Range.rangeSize a b 1 - 1) * 1 := by rw [hn]; omega
    rw [e1, ← hn]
    exact Heap.get?_push_size _ rfl
  have free : H1 s1.heap.objs.size = none := I1.hok.fresh (Nat.le_refl _)
  refine list_of_rit (s := { s1 with heap := s1.heap.push (rngRevObj a b 1) }) (I1.ok.hd hc) hit few fun h' tk us ep keep at' its => ?_
  have keep2 : ∀ b o, s1.heap.get? b = some o → h'.get? b = some o := fun b o e => keep b o (Nat.ne_of_lt (Heap.lt_size e)) (Heap.get?_push_of_some _ e)
  have sz : s1.heap.objs.size ≤ (s1.heap.push (rngRevObj a b 1)).objs.size := by
    rw [Heap.size_push]
    exact Nat.le_succ _
  refine ⟨.ref (s1.heap.push (rngRevObj a b 1)).objs.size, upd H1 (s1.heap.push (rngRevObj a b 1)).objs.size _, I1.laid keep2 sz (show ObjOk X.prog X.w _ _ _ (.lst ((List.range n).map fun i => V.int (a + (n : Int) - 1 + (i : Nat) * (-1)))) from ⟨?_, us.toList, ep, vals_its its, ?_⟩), rfl, q _ (I1.hok.fresh sz)⟩
  · rw [List.length_map, List.length_range, sizeLine_eq]
    omega
  · rw [Array.toArray_toList]
    exact at'
end
end SLI
/-! J1: pure data, what represents it in a heap, what a def does to it -/
namespace J
open PySem L2

/-- pure data; the o-forms: lists, lists of lists, instances that one holder may change; mv: new and handed over -/
inductive D where
  | non | bl (b : Bool) | int (i : Int) | str (x : Str)
  | lst (ds : List D) | tup (ds : List D) | obj (C : Addr) (gs : List (Str × D)) | dct (ks : List (Int × Int)) | scr (ns : List Int)
  | fn (a : Addr) | olst (ds : List D) | oll (dss : List (List D)) | oobj (C : Addr) (gs : List (Str × D)) | mv (d : D)

def tab (ks : List (Int × Int)) : List (List Key × V) := ks.map fun k => ([Sum.inl k.1, Sum.inl k.2], V.bl true)

mutual
inductive Rep (K : PySem.W.Frag) (H : Hp) : V → D → Prop
  | non : Rep K H .non .non
  | bl (b : Bool) : Rep K H (.bl b) (.bl b)
  | int (i : Int) : Rep K H (.int i) (.int i)
  | str (x : Str) : Rep K H (.str x) (.str x)
  | lst {a : Addr} {vs : List V} {ds : List D} : H a = some (.lst vs) → RepL K H vs ds → Rep K H (.ref a) (.lst ds)
  | tup {a : Addr} {vs : List V} {ds : List D} : H a = some (.tup vs) → RepL K H vs ds → Rep K H (.ref a) (.tup ds)
  | obj {a C dx : Addr} {fs : List (Str × V)} {gs : List (Str × D)} : H a = some (.ins C dx fs) → RepF K H fs gs → Rep K H (.ref a) (.obj C gs)
  | dct {a : Addr} {ks : List (Int × Int)} : H a = some (.dT (tab ks)) → Rep K H (.ref a) (.dct ks)
  | scr {a : Addr} {ns : List Int} : SqL K H a (ns.map V.int) → Rep K H (.ref a) (.scr ns)
  | fn (a : Addr) : Rep K H (.ref a) (.fn a)
inductive RepL (K : PySem.W.Frag) (H : Hp) : List V → List D → Prop
  | nil : RepL K H [] []
  | cons {v : V} {d : D} {vs : List V} {ds : List D} : Rep K H v d → RepL K H vs ds → RepL K H (v :: vs) (d :: ds)
inductive RepF (K : PySem.W.Frag) (H : Hp) : List (Str × V) → List (Str × D) → Prop
  | nil : RepF K H [] []
  | cons {x : Str} {v : V} {d : D} {fs : List (Str × V)} {gs : List (Str × D)} : Rep K H v d → RepF K H fs gs → RepF K H ((x, v) :: fs) ((x, d) :: gs)
end

section
variable {K : PySem.W.Frag} {H H' : Hp}
mutual
theorem Rep.mono (e : Same H H') : ∀ (d : D) (v : V), Rep K H v d → Rep K H' v d
  | .non, _, h => by cases h; exact .non
  | .bl _, _, h => by cases h; exact .bl _
  | .int _, _, h => by cases h; exact .int _
  | .str _, _, h => by cases h; exact .str _
  | .lst ds, _, h => by
    cases h with
    | lst h1 h2 => exact .lst (e _ _ h1) (RepL.mono e ds _ h2)
  | .tup ds, _, h => by
    cases h with
    | tup h1 h2 => exact .tup (e _ _ h1) (RepL.mono e ds _ h2)
  | .obj C gs, _, h => by
    cases h with
    | obj h1 h2 => exact .obj (e _ _ h1) (RepF.mono e gs _ h2)
  | .dct ks, _, h => by
    cases h with
    | dct h1 => exact .dct (e _ _ h1)
  | .scr ns, _, h => by
    cases h with
    | scr h1 => exact .scr (e.seq h1)
  | .fn _, _, h => by cases h; exact .fn _
  | .olst _, _, h => by cases h
  | .oll _, _, h => by cases h
  | .oobj _ _, _, h => by cases h
  | .mv _, _, h => by cases h
theorem RepL.mono (e : Same H H') : ∀ (ds : List D) (vs : List V), RepL K H vs ds → RepL K H' vs ds
  | [], _, h => by cases h; exact .nil
  | d :: ds, _, h => by
    cases h with
    | cons h1 h2 => exact .cons (Rep.mono e d _ h1) (RepL.mono e ds _ h2)
theorem RepF.mono (e : Same H H') : ∀ (gs : List (Str × D)) (fs : List (Str × V)), RepF K H fs gs → RepF K H' fs gs
  | [], _, h => by cases h; exact .nil
  | (x, d) :: gs, _, h => by
    cases h with
    | cons h1 h2 => exact .cons (Rep.mono e d _ h1) (RepF.mono e gs _ h2)
end
theorem Rep.to (h : Rep K H v d) (e : Same H H') : Rep K H' v d := Rep.mono e _ _ h
theorem RepL.to {vs : List V} {ds : List D} (h : RepL K H vs ds) (e : Same H H') : RepL K H' vs ds := RepL.mono e _ _ h
theorem RepF.to {fs : List (Str × V)} {gs : List (Str × D)} (h : RepF K H fs gs) (e : Same H H') : RepF K H' fs gs := RepF.mono e _ _ h
theorem RepL.len : ∀ {vs : List V} {ds : List D}, RepL K H vs ds → vs.length = ds.length
  | _, _, .nil => rfl
  | _, _, .cons _ t => congrArg (· + 1) t.len
theorem RepL.app : ∀ {vs : List V} {ds : List D} {ws : List V} {es : List D}, RepL K H vs ds → RepL K H ws es → RepL K H (vs ++ ws) (ds ++ es)
  | _, _, _, _, .nil, h => h
  | _, _, _, _, .cons a t, h => .cons a (t.app h)
theorem RepL.tk : ∀ {vs : List V} {ds : List D} (n : Nat), RepL K H vs ds → RepL K H (vs.take n) (ds.take n)
  | _, _, 0, _ => .nil
  | _, _, _ + 1, .nil => .nil
  | _, _, n + 1, .cons a t => .cons a (t.tk n)
theorem RepL.dr : ∀ {vs : List V} {ds : List D} (n : Nat), RepL K H vs ds → RepL K H (vs.drop n) (ds.drop n)
  | _, _, 0, h => h
  | _, _, _ + 1, .nil => .nil
  | _, _, n + 1, .cons _ t => t.dr n
theorem RepL.at : ∀ {vs : List V} {ds : List D} {i : Nat} {d : D}, RepL K H vs ds → ds[i]? = some d → ∃ v, vs[i]? = some v ∧ Rep K H v d
  | _, _, _, _, .nil, e => by simp at e
  | _, _, 0, _, .cons a _, e => by
    have e2 := Option.some.inj e
    subst e2
    exact ⟨_, rfl, a⟩
  | _, _, i + 1, _, .cons _ t, e => RepL.at (i := i) t e
theorem RepL.atv : ∀ {vs : List V} {ds : List D} {i : Nat} {v : V}, RepL K H vs ds → vs[i]? = some v → ∃ d, ds[i]? = some d ∧ Rep K H v d
  | _, _, _, _, .nil, e => by simp at e
  | _, _, 0, _, .cons a _, e => by
    have e2 := Option.some.inj e
    subst e2
    exact ⟨_, rfl, a⟩
  | _, _, i + 1, _, .cons _ t, e => RepL.atv (i := i) t e
theorem RepL.rev {vs : List V} {ds : List D} (h : RepL K H vs ds) : RepL K H vs.reverse ds.reverse := by
  induction h using RepL.rec (motive_1 := fun _ _ _ => True) (motive_3 := fun _ _ _ => True) with
  | nil => exact .nil
  | cons a t _ ih =>
    rw [List.reverse_cons, List.reverse_cons]
    exact ih.app (.cons a .nil)
  | _ => trivial
theorem RepL.setI : ∀ {vs : List V} {ds : List D} {v : V} {d : D} (i : Nat), RepL K H vs ds → Rep K H v d → RepL K H (vs.set i v) (ds.set i d)
  | _, _, _, _, _, .nil, _ => .nil
  | _, _, _, _, 0, .cons _ t, h => .cons h t
  | _, _, _, _, i + 1, .cons a t, h => .cons a (t.setI i h)
theorem RepL.ints : ∀ {vs : List V} {ns : List Int}, RepL K H vs (ns.map D.int) → vs = ns.map V.int
  | vs, [], h => by cases h; rfl
  | vs, n :: ns, h => by
    cases h with
    | cons a t =>
      cases a
      rw [t.ints] <;> rfl
theorem RepL.ofInts : ∀ ns : List Int, RepL K H (ns.map V.int) (ns.map D.int)
  | [] => .nil
  | n :: ns => .cons (.int n) (RepL.ofInts ns)
theorem RepL.bools : ∀ {vs : List V} {ns : List Bool}, RepL K H vs (ns.map D.bl) → vs = ns.map V.bl
  | vs, [], h => by cases h; rfl
  | vs, n :: ns, h => by
    cases h with
    | cons a t =>
      cases a
      rw [t.bools] <;> rfl
end
end J
/-! J2: what one holds, the judgements over pure data -/
namespace J
open PySem L2

/-- lists at as, each of its items -/
inductive RepLL (K : PySem.W.Frag) (H0 H : Hp) : List Addr → List (List D) → Prop
  | nil : RepLL K H0 H [] []
  | cons {a : Addr} {vs : List V} {ds : List D} {as : List Addr} {dss : List (List D)} : H a = some (.lst vs) → RepL K H0 vs ds → RepLL K H0 H as dss → RepLL K H0 H (a :: as) (ds :: dss)
inductive Own1 (K : PySem.W.Frag) (H0 H : Hp) : List Addr → V → D → Prop
  | leaf {v : V} {d : D} : Rep K H0 v d → Own1 K H0 H [] v d
  | olst {a : Addr} {vs : List V} {ds : List D} : H a = some (.lst vs) → RepL K H0 vs ds → Own1 K H0 H [a] (.ref a) (.olst ds)
  | oll {a : Addr} {as : List Addr} {dss : List (List D)} : H a = some (.lst (as.map V.ref)) → RepLL K H0 H as dss → Own1 K H0 H (a :: as) (.ref a) (.oll dss)
inductive OwnF (K : PySem.W.Frag) (H0 H : Hp) : List Addr → List (Str × V) → List (Str × D) → Prop
  | nil : OwnF K H0 H [] [] []
  | cons {x : Str} {v : V} {d : D} {fs : List (Str × V)} {gs : List (Str × D)} {p q : List Addr} : Own1 K H0 H p v d → OwnF K H0 H q fs gs → OwnF K H0 H (p ++ q) ((x, v) :: fs) ((x, d) :: gs)
inductive Own (K : PySem.W.Frag) (H0 H : Hp) : List Addr → V → D → Prop
  | one {p : List Addr} {v : V} {d : D} : Own1 K H0 H p v d → Own K H0 H p v d
  | oobj {a C dx : Addr} {fs : List (Str × V)} {gs : List (Str × D)} {p : List Addr} : H a = some (.ins C dx fs) → OwnF K H0 H p fs gs → Own K H0 H (a :: p) (.ref a) (.oobj C gs)

section
variable {K : PySem.W.Frag} {H0 H0' H H' : Hp}
/-- the heap keeps what is held -/
def KeepO (p : List Addr) (H H' : Hp) : Prop := ∀ a ∈ p, ∀ o, H a = some o → H' a = some o
theorem RepLL.mono (e0 : Same H0 H0') : ∀ {as : List Addr} {dss : List (List D)}, KeepO as H H' → RepLL K H0 H as dss → RepLL K H0' H' as dss
  | _, _, _, .nil => .nil
  | _, _, e, .cons h r t => .cons (e _ List.mem_cons_self _ h) (r.to e0) (t.mono e0 fun b hb => e b (List.mem_cons_of_mem _ hb))
theorem Own1.mono (e0 : Same H0 H0') {p : List Addr} {v : V} {d : D} (e : KeepO p H H') (h : Own1 K H0 H p v d) : Own1 K H0' H' p v d := by
  cases h with
  | leaf r => exact .leaf (r.to e0)
  | olst h r => exact .olst (e _ List.mem_cons_self _ h) (r.to e0)
  | oll h r => exact .oll (e _ List.mem_cons_self _ h) (r.mono e0 fun b hb => e b (List.mem_cons_of_mem _ hb))
theorem OwnF.mono (e0 : Same H0 H0') : ∀ {p : List Addr} {fs : List (Str × V)} {gs : List (Str × D)}, KeepO p H H' → OwnF K H0 H p fs gs → OwnF K H0' H' p fs gs
  | _, _, _, _, .nil => .nil
  | _, _, _, e, .cons h t => .cons (h.mono e0 fun b hb => e b (List.mem_append_left _ hb)) (t.mono e0 fun b hb => e b (List.mem_append_right _ hb))
theorem Own.mono (e0 : Same H0 H0') {p : List Addr} {v : V} {d : D} (e : KeepO p H H') (h : Own K H0 H p v d) : Own K H0' H' p v d := by
  cases h with
  | one r => exact .one (r.mono e0 e)
  | oobj h r => exact .oobj (e _ List.mem_cons_self _ h) (r.mono e0 fun b hb => e b (List.mem_cons_of_mem _ hb))
theorem keepO {p : List Addr} (e : Same H H') : KeepO p H H' := fun a _ o h => e a o h
theorem Own.to {p : List Addr} {v : V} {d : D} (h : Own K H0 H p v d) (e0 : Same H0 H0') (e : Same H H') : Own K H0' H' p v d := h.mono e0 (keepO e)
theorem RepLL.there : ∀ {as : List Addr} {dss : List (List D)}, RepLL K H0 H as dss → ∀ a ∈ as, ∃ o, H a = some o
  | _, _, .cons h r t, b, hb => by
    rcases List.mem_cons.mp hb with e | hb
    · rw [e]
      exact ⟨_, h⟩
    · exact t.there b hb
theorem Own1.there {p : List Addr} {v : V} {d : D} (h : Own1 K H0 H p v d) : ∀ a ∈ p, ∃ o, H a = some o := fun b hb => by
  cases h with
  | leaf r => cases hb
  | olst h r =>
    rcases List.mem_cons.mp hb with e | hb
    · rw [e]
      exact ⟨_, h⟩
    · cases hb
  | oll h r =>
    rcases List.mem_cons.mp hb with e | hb
    · rw [e]
      exact ⟨_, h⟩
    · exact r.there b hb
theorem OwnF.there : ∀ {p : List Addr} {fs : List (Str × V)} {gs : List (Str × D)}, OwnF K H0 H p fs gs → ∀ a ∈ p, ∃ o, H a = some o
  | _, _, _, .cons h t, b, hb => by
    rcases List.mem_append.mp hb with hb | hb
    · exact h.there b hb
    · exact t.there b hb
theorem Own.there {p : List Addr} {v : V} {d : D} (h : Own K H0 H p v d) : ∀ a ∈ p, ∃ o, H a = some o := fun b hb => by
  cases h with
  | one r => exact r.there b hb
  | oobj h r =>
    rcases List.mem_cons.mp hb with e | hb
    · rw [e]
      exact ⟨_, h⟩
    · exact r.there b hb
end

/-! ### making what is held plain -/
def frz1 : D → D
  | .olst ds => .lst ds
  | .oll dss => .lst (dss.map .lst)
  | d => d
def frz : D → D
  | .oobj C gs => .obj C (gs.map fun g => (g.1, frz1 g.2))
  | .mv d => frz1 (match d with | .oobj C gs => .obj C (gs.map fun g => (g.1, frz1 g.2)) | d => d)
  | d => frz1 d
/-- H0 and what stands at p -/
def more (H0 H : Hp) (p : List Addr) : Hp := fun a => if a ∈ p then H a else H0 a
section
variable {K : PySem.W.Frag} {H0 H : Hp}
theorem more_in {p : List Addr} {a : Addr} (h : a ∈ p) : more H0 H p a = H a := if_pos h
theorem more_out {p : List Addr} {a : Addr} (h : a ∉ p) : more H0 H p a = H0 a := if_neg h
theorem more_same {p : List Addr} (e : Same H0 H) : Same H0 (more H0 H p) := fun a o h => by
  by_cases c : a ∈ p
  · rw [more_in c]
    exact e a o h
  · rw [more_out c]
    exact h
theorem more_sub {p : List Addr} (e : Same H0 H) : Same (more H0 H p) H := fun a o h => by
  by_cases c : a ∈ p
  · rw [more_in c] at h
    exact h
  · rw [more_out c] at h
    exact e a o h
theorem more_new {p : List Addr} {a : Addr} {o : HO} (h : more H0 H p a = some o) (n : H0 a = none) : a ∈ p := by
  by_cases c : a ∈ p
  · exact c
  · rw [more_out c, n] at h
    cases h
theorem RepLL.frz (e : Same H0 H) {G : Hp} (eG : Same H0 G) : ∀ {as : List Addr} {dss : List (List D)}, (∀ a ∈ as, ∀ o, H a = some o → G a = some o) → RepLL K H0 H as dss → RepL K G (as.map V.ref) (dss.map D.lst)
  | _, _, _, .nil => .nil
  | _, _, k, .cons h r t => .cons (.lst (k _ List.mem_cons_self _ h) (r.to eG)) (t.frz e eG fun b hb => k b (List.mem_cons_of_mem _ hb))
theorem Own1.frz (e : Same H0 H) {G : Hp} (eG : Same H0 G) {p : List Addr} {v : V} {d : D} (k : ∀ a ∈ p, ∀ o, H a = some o → G a = some o) (h : Own1 K H0 H p v d) : Rep K G v (frz1 d) := by
  cases h with
  | leaf r =>
    have q := r.to eG
    cases q <;> first | exact .non | exact .bl _ | exact .int _ | exact .str _ | exact .lst ‹_› ‹_› | exact .tup ‹_› ‹_› | exact .obj ‹_› ‹_› | exact .dct ‹_› | exact .scr ‹_› | exact .fn _
  | olst h r => exact .lst (k _ List.mem_cons_self _ h) (r.to eG)
  | oll h r => exact .lst (k _ List.mem_cons_self _ h) (r.frz e eG fun b hb => k b (List.mem_cons_of_mem _ hb))
theorem OwnF.frz (e : Same H0 H) {G : Hp} (eG : Same H0 G) : ∀ {p : List Addr} {fs : List (Str × V)} {gs : List (Str × D)}, (∀ a ∈ p, ∀ o, H a = some o → G a = some o) → OwnF K H0 H p fs gs → RepF K G fs (gs.map fun g => (g.1, frz1 g.2))
  | _, _, _, _, .nil => .nil
  | _, _, _, k, .cons h t => .cons (h.frz e eG fun b hb => k b (List.mem_append_left _ hb)) (t.frz e eG fun b hb => k b (List.mem_append_right _ hb))
theorem Rep.frz_eq {v : V} {d : D} (h : Rep K H v d) : J.frz d = d := by cases h <;> rfl
theorem Own.frz (e : Same H0 H) {G : Hp} (eG : Same H0 G) {p : List Addr} {v : V} {d : D} (k : ∀ a ∈ p, ∀ o, H a = some o → G a = some o) (h : Own K H0 H p v d) : Rep K G v (J.frz d) := by
  cases h with
  | one r =>
    have q := r.frz e eG k
    cases r with
    | leaf r => rw [r.frz_eq]; exact r.to eG
    | olst _ _ => exact q
    | oll _ _ => exact q
  | oobj h r => exact .obj (k _ List.mem_cons_self _ h) (r.frz e eG fun b hb => k b (List.mem_cons_of_mem _ hb))
theorem Own.frz_mv (e : Same H0 H) {G : Hp} (eG : Same H0 G) {p : List Addr} {v : V} {d : D} (k : ∀ a ∈ p, ∀ o, H a = some o → G a = some o) (h : Own K H0 H p v d) : Rep K G v (J.frz (.mv d)) := by
  cases h with
  | one r =>
    have q := r.frz e eG k
    cases r with
    | leaf r =>
      have q2 := r.to eG
      cases q2 <;> first | exact .non | exact .bl _ | exact .int _ | exact .str _ | exact .lst ‹_› ‹_› | exact .tup ‹_› ‹_› | exact .obj ‹_› ‹_› | exact .dct ‹_› | exact .scr ‹_› | exact .fn _
    | olst _ _ => exact q
    | oll _ _ => exact q
  | oobj h r => exact .obj (k _ List.mem_cons_self _ h) (r.frz e eG fun b hb => k b (List.mem_cons_of_mem _ hb))
end

/-! ### steps of the heap -/
/-- from the known H0 in H1 to the known G0 in G: what is new in G0 was not in H1 -/
structure Step (H0 H1 G0 G : Hp) : Prop where
  e1 : Same H1 G
  e0 : Same H0 G0
  e2 : Same G0 G
  fr : ∀ a o, G0 a = some o → H0 a = none → H1 a = none
section
variable {H0 H1 G0 G I0 I : Hp}
theorem Step.refl (e : Same H0 H1) : Step H0 H1 H0 H1 := ⟨Same.refl _, Same.refl _, e, fun a o h n => by rw [n] at h; cases h⟩
theorem Step.trans (a : Step H0 H1 G0 G) (b : Step G0 G I0 I) : Step H0 H1 I0 I :=
  ⟨a.e1.trans b.e1, a.e0.trans b.e0, b.e2, fun x o h n => by
    cases q : G0 x with
    | some u => exact a.fr x u q n
    | none => exact a.e1.free (b.fr x o h q)⟩
theorem same_new {H : Hp} {p : Addr} {o : HO} (h : H p = none) : Same H (upd H p o) := fun a u e => by
  rw [upd_ne (ne_of_none e h)]
  exact e
theorem same_upd2 {H G : Hp} {p : Addr} {o : HO} (e : Same H G) : Same (upd H p o) (upd G p o) := fun a u h => by
  by_cases c : a = p
  · subst c
    rw [upd_same] at h ⊢
    exact h
  · rw [upd_ne c] at h ⊢
    exact e a u h
/-- a new object that is known from now on -/
theorem Step.new {p : Addr} {o : HO} (e : Same H0 H1) (h : H1 p = none) : Step H0 H1 (upd H0 p o) (upd H1 p o) :=
  ⟨same_new h, same_new (e.free h), same_upd2 e, fun a u q n => by
    by_cases c : a = p
    · rw [c]
      exact h
    · rw [upd_ne c, n] at q
      cases q⟩
/-- a new object that is not known -/
theorem Step.newO {p : Addr} {o : HO} (e : Same H0 H1) (h : H1 p = none) : Step H0 H1 H0 (upd H1 p o) :=
  ⟨same_new h, Same.refl _, e.trans (same_new h), fun a u q n => by rw [n] at q; cases q⟩
theorem Step.grow {G' : Hp} (a : Step H0 H1 G0 G) (e : Same G G') : Step H0 H1 G0 G' := ⟨a.e1.trans e, a.e0, a.e2.trans e, a.fr⟩
end

/-! ### what an expression gives -/
def Fresh (H0 H1 : Hp) (p : List Addr) : Prop := p.Nodup ∧ ∀ a ∈ p, H0 a = none ∧ H1 a = none
def Res (K : PySem.W.Frag) (H1 G0 G : Hp) (v : V) : D → Prop
  | .mv d => ∃ p, Own K G0 G p v d ∧ Fresh G0 H1 p
  | d => ∃ p, Own K G0 G p v d
/-- a slot: nothing known; a value -/
inductive DV where
  | no | tr (d : D)
def DV.see : DV → Option D
  | .no => none
  | .tr d => some d
abbrev DE : Type := List DV → (D → Prop) → Prop
abbrev DT : Type := List DV → (Bool → Prop) → Prop
abbrev DA : Type := List DV → (List D → Prop) → Prop
/-- what an expression reads of the slots -/
structure EnvE (K : PySem.W.Frag) (H0 H : Hp) (δ : List DV) (σ : L2.St) : Prop where
  at_ : ∀ (i : Nat) (d : D), (δ[i]?).bind DV.see = some d → ∃ v p, σ[i]? = some (some v) ∧ Own K H0 H p v d
  len : δ.length = σ.length
def Kont (K : PySem.W.Frag) (H0 H1 : Hp) (P : D → Prop) (Q : VK) : Prop := ∀ v d G0 G, P d → Step H0 H1 G0 G → Res K H1 G0 G v d → Q v G
def KontT (H1 : Hp) (P : Bool → Prop) (Q : Bool → Hp → Prop) : Prop := ∀ b G, P b → Same H1 G → Q b G
abbrev AL (K : PySem.W.Frag) (G0 G : Hp) : List V → List D → Prop := Paired fun v d => ∃ p, Own K G0 G p v d
def KontA (K : PySem.W.Frag) (H0 H1 : Hp) (P : List D → Prop) (Q : List V → Hp → Prop) : Prop := ∀ vs ds G0 G, P ds → Step H0 H1 G0 G → AL K G0 G vs ds → Q vs G
def SndE (K : PySem.W.Frag) (te : TE) (T : DE) : Prop := ∀ δ P, T δ P → ∀ H0 H1 σ Q, Same H0 H1 → EnvE K H0 H1 δ σ → Kont K H0 H1 P Q → te σ H1 Q
def SndT (K : PySem.W.Frag) (tt : TT) (T : DT) : Prop := ∀ δ P, T δ P → ∀ H0 H1 σ Q, Same H0 H1 → EnvE K H0 H1 δ σ → KontT H1 P Q → tt σ H1 Q
def SndA (K : PySem.W.Frag) (ta : TA) (T : DA) : Prop := ∀ δ P, T δ P → ∀ H0 H1 σ Q, Same H0 H1 → EnvE K H0 H1 δ σ → KontA K H0 H1 P Q → ta σ H1 Q
structure PEd (X : Cx) (e : Expr) (te : TE) (T : DE) : Prop where
  p : PE X e te
  s : SndE X.K te T
structure PTd (X : Cx) (e : Expr) (tt : TT) (T : DT) : Prop where
  p : PT X e tt
  s : SndT X.K tt T
structure PAd (X : Cx) (es : List Expr) (ta : TA) (T : DA) : Prop where
  p : PA X es ta
  s : SndA X.K ta T

section
variable {K : PySem.W.Frag} {H0 H1 G0 G : Hp} {δ : List DV} {σ : L2.St}
theorem EnvE.to (h : EnvE K H0 H1 δ σ) (e0 : Same H0 G0) (e : Same H1 G) : EnvE K G0 G δ σ := ⟨fun i d q => by
  obtain ⟨v, p, h1, h2⟩ := h.at_ i d q
  exact ⟨v, p, h1, h2.to e0 e⟩, h.len⟩
theorem Res.plain {H1 : Hp} {v : V} {d : D} {p : List Addr} (h : Own K G0 G p v d) : Res K H1 G0 G v d := by
  cases h with
  | one r =>
    cases r with
    | leaf r => cases r <;> exact ⟨_, .one (.leaf (by first | exact .non | exact .bl _ | exact .int _ | exact .str _ | exact .lst ‹_› ‹_› | exact .tup ‹_› ‹_› | exact .obj ‹_› ‹_› | exact .dct ‹_› | exact .scr ‹_› | exact .fn _))⟩
    | olst a b => exact ⟨_, .one (.olst a b)⟩
    | oll a b => exact ⟨_, .one (.oll a b)⟩
  | oobj a b => exact ⟨_, .oobj a b⟩
theorem Res.rep {H1 : Hp} {v : V} {d : D} (h : Rep K G0 v d) : Res K H1 G0 G v d := Res.plain (.one (.leaf h))
theorem AL.to : ∀ {vs : List V} {ds : List D} {I0 I : Hp}, AL K G0 G vs ds → Same G0 I0 → Same G I → AL K I0 I vs ds
  | _, _, _, _, .nil, _, _ => .nil
  | _, _, _, _, .cons ⟨p, h⟩ t, e0, e => .cons ⟨p, h.to e0 e⟩ (AL.to t e0 e)
/-- a result stands when more is done -/
theorem Res.to {H1 I0 I : Hp} {v : V} {d : D} (h : Res K H1 G0 G v d) (s : Step G0 G I0 I) : Res K H1 I0 I v d := by
  cases d with
  | mv d =>
    obtain ⟨p, h, n, f⟩ := h
    refine ⟨p, h.to s.e0 s.e1, n, fun a ha => ⟨?_, (f a ha).2⟩⟩
    cases q : I0 a with
    | none => rfl
    | some o =>
      obtain ⟨u, hu⟩ := h.there a ha
      have z := s.fr a o q (f a ha).1
      rw [hu] at z
      cases z
  | _ =>
    obtain ⟨p, h⟩ := h
    exact ⟨p, h.to s.e0 s.e1⟩
theorem Res.back {H1 H2 : Hp} {v : V} {d : D} (h : Res K H2 G0 G v d) (e : Same H1 H2) : Res K H1 G0 G v d := by
  cases d with
  | mv d =>
    obtain ⟨p, h, n, f⟩ := h
    exact ⟨p, h, n, fun a ha => ⟨(f a ha).1, e.free (f a ha).2⟩⟩
  | _ => exact h
theorem Kont.after {I0 I : Hp} {P : D → Prop} {Q : VK} (k : Kont K H0 H1 P Q) (s : Step H0 H1 I0 I) : Kont K I0 I P Q := fun v d G0 G hp t r => k v d G0 G hp (s.trans t) (r.back s.e1)
end

/-! ### statements -/
structure EndsD where
  nx : List DV → Prop
  rt : D → Prop
  bk : List DV → Prop := fun _ => False
  ct : List DV → Prop := fun _ => False
abbrev DS : Type := EndsD → List DV → Prop
/-- what is held: f tells the places of each slot -/
structure Holds (K : PySem.W.Frag) (B H0 : Hp) (δ : List DV) (σ : L2.St) (H : Hp) (f : Nat → List Addr) : Prop where
  is : ∀ (i : Nat) (d : D), δ[i]? = some (DV.tr d) → ∃ v, σ[i]? = some (some v) ∧ Own K H0 H (f i) v d
  fresh : ∀ i, Fresh H0 B (f i)
  apart : ∀ i j, i ≠ j → ∀ a ∈ f i, a ∉ f j
  there : ∀ i, ∀ a ∈ f i, ∃ o, H a = some o
/-- the slots, from the entry's He in B -/
structure Ok (K : PySem.W.Frag) (B He H0 : Hp) (δ : List DV) (σ : L2.St) (H : Hp) : Prop where
  st : Step He B H0 H
  own : ∃ f : Nat → List Addr, Holds K B H0 δ σ H f
  len : δ.length = σ.length
structure Lift (K : PySem.W.Frag) (B He Hb : Hp) (E : EndsD) (D : Ends) : Prop where
  nx : ∀ δ H0 σ H, E.nx δ → Ok K B He H0 δ σ H → Same Hb H0 → D.nx σ H
  rt : ∀ d v H0 H, E.rt d → Step He B H0 H → Res K B H0 H v d → D.rt v H
  bk : ∀ δ H0 σ H, E.bk δ → Ok K B He H0 δ σ H → Same Hb H0 → D.bk σ H
  ct : ∀ δ H0 σ H, E.ct δ → Ok K B He H0 δ σ H → Same Hb H0 → D.ct σ H
theorem Lift.mono {K : PySem.W.Frag} {B He Hb Hc : Hp} {E : EndsD} {D : Ends} (L : Lift K B He Hb E D) (e : Same Hb Hc) : Lift K B He Hc E D :=
  ⟨fun δ H0 σ H h ok s => L.nx δ H0 σ H h ok (e.trans s), L.rt, fun δ H0 σ H h ok s => L.bk δ H0 σ H h ok (e.trans s), fun δ H0 σ H h ok s => L.ct δ H0 σ H h ok (e.trans s)⟩
structure PSd (X : Cx) (B He : Hp) (st : Stmt) (T : DS) : Prop where
  ex : ∃ t, PS X st t ∧ ∀ E δ, T E δ → ∀ D H0 σ H, Lift X.K B He H0 E D → Ok X.K B He H0 δ σ H → t D σ H
structure PSsd (X : Cx) (B He : Hp) (sts : List Stmt) (T : DS) : Prop where
  ex : ∃ t, PSs X sts t ∧ ∀ E δ, T E δ → ∀ D H0 σ H, Lift X.K B He H0 E D → Ok X.K B He H0 δ σ H → t D σ H

section
variable {K : PySem.W.Frag} {B He H0 G0 H G : Hp} {δ : List DV} {σ : L2.St}
theorem Ok.env (h : Ok K B He H0 δ σ H) : EnvE K H0 H δ σ := ⟨fun i d q => by
  obtain ⟨f, h1, _, _⟩ := h.own
  cases e : δ[i]? with
  | none => rw [e] at q; cases q
  | some x =>
    rw [e] at q
    cases x with
    | no => cases q
    | tr d' =>
      have e2 : d' = d := Option.some.inj q
      subst e2
      obtain ⟨v, a, b⟩ := h1 i d' e
      exact ⟨v, _, a, b⟩, h.len⟩
/-- more is known, more stands -/
theorem Ok.to (h : Ok K B He H0 δ σ H) (s : Step H0 H G0 G) : Ok K B He G0 δ σ G := by
  obtain ⟨f, h1⟩ := h.own
  refine ⟨h.st.trans s, ⟨f, fun i d q => ?_, fun i => ⟨(h1.fresh i).1, fun a ha => ⟨?_, ((h1.fresh i).2 a ha).2⟩⟩, h1.apart, fun i a ha => ?_⟩, h.len⟩
  · obtain ⟨v, a, b⟩ := h1.is i d q
    exact ⟨v, a, b.to s.e0 s.e1⟩
  · cases q : G0 a with
    | none => rfl
    | some o =>
      obtain ⟨u, hu⟩ := h1.there i a ha
      have z := s.fr a o q ((h1.fresh i).2 a ha).1
      rw [hu] at z
      cases z
  · obtain ⟨u, hu⟩ := h1.there i a ha
    exact ⟨u, s.e1 a u hu⟩
def setF (f : Nat → List Addr) (i : Nat) (p : List Addr) : Nat → List Addr := fun j => if j = i then p else f j
theorem setF_same {f : Nat → List Addr} {i : Nat} {p : List Addr} : setF f i p i = p := if_pos rfl
theorem setF_ne {f : Nat → List Addr} {i j : Nat} {p : List Addr} (h : j ≠ i) : setF f i p j = f j := if_neg h
/-- a value is stored, with all it holds -/
theorem Ok.putG {i : Nat} {v : V} {d : D} {p : List Addr} {f : Nat → List Addr} (h : Ok K B He H0 δ σ H) (hf : Holds K B H0 δ σ H f) (r : Own K H0 H p v d) (fr : Fresh H0 B p) (ap : ∀ j, j ≠ i → ∀ a ∈ f j, a ∉ p) :
    Ok K B He H0 (δ.set i (.tr d)) (σ.set i (some v)) H := by
  have hl := h.len
  refine ⟨h.st, ⟨setF f i p, fun j d' q => ?_, fun j => ?_, fun j k hjk a ha hb => ?_, fun j a ha => ?_⟩, by rw [List.length_set, List.length_set, hl]⟩
  · by_cases c : j = i
    · subst c
      have lt : j < δ.length := by
        have := (List.getElem?_eq_some_iff.mp q).1
        rwa [List.length_set] at this
      rw [List.getElem?_set_self lt] at q
      cases q
      refine ⟨v, List.getElem?_set_self (by rw [← hl]; exact lt), ?_⟩
      rw [setF_same]
      exact r
    · rw [List.getElem?_set_ne (Ne.symm c)] at q
      obtain ⟨u, a, b⟩ := hf.is j d' q
      refine ⟨u, by rw [List.getElem?_set_ne (Ne.symm c)]; exact a, ?_⟩
      rw [setF_ne c]
      exact b
  · by_cases c : j = i
    · subst c
      rw [setF_same]
      exact fr
    · rw [setF_ne c]
      exact hf.fresh j
  · by_cases c : j = i
    · subst c
      rw [setF_same] at ha
      rw [setF_ne (Ne.symm hjk)] at hb
      exact ap k (Ne.symm hjk) a hb ha
    · rw [setF_ne c] at ha
      by_cases c2 : k = i
      · subst c2
        rw [setF_same] at hb
        exact ap j c a ha hb
      · rw [setF_ne c2] at hb
        exact hf.apart j k hjk a ha hb
  · by_cases c : j = i
    · subst c
      rw [setF_same] at ha
      exact r.there a ha
    · rw [setF_ne c] at ha
      exact hf.there j a ha
/-- a plain value is stored -/
theorem Ok.put {i : Nat} {v : V} {d : D} (h : Ok K B He H0 δ σ H) (r : Rep K H0 v d) : Ok K B He H0 (δ.set i (.tr d)) (σ.set i (some v)) H := by
  obtain ⟨f, hf⟩ := h.own
  exact h.putG hf (.one (.leaf r)) ⟨List.nodup_nil, fun a ha => by cases ha⟩ fun j _ a _ hb => by cases hb
/-- a new value is stored -/
theorem Ok.putM {i : Nat} {v : V} {d : D} {p : List Addr} (h : Ok K B He H0 δ σ H) (s : Step H0 H G0 G) (r : Own K G0 G p v d) (fr : Fresh G0 H p) : Ok K B He G0 (δ.set i (.tr d)) (σ.set i (some v)) G := by
  obtain ⟨f, hf⟩ := h.own
  have q := h.to s
  have e : ∀ j, ∀ a ∈ f j, a ∉ p := fun j a ha hp => by
    obtain ⟨o, ho⟩ := hf.there j a ha
    rw [(fr.2 a hp).2] at ho
    cases ho
  refine q.putG (f := f) ⟨fun i d z => ?_, fun i => ⟨(hf.fresh i).1, fun a ha => ⟨?_, ((hf.fresh i).2 a ha).2⟩⟩, hf.apart, fun i a ha => ?_⟩ r ⟨fr.1, fun a ha => ⟨(fr.2 a ha).1, h.st.e1.free (fr.2 a ha).2⟩⟩ fun j _ a ha => e j a ha
  · obtain ⟨v, a, b⟩ := hf.is i d z
    exact ⟨v, a, b.to s.e0 s.e1⟩
  · cases q : G0 a with
    | none => rfl
    | some o =>
      obtain ⟨u, hu⟩ := hf.there i a ha
      have z := s.fr a o q ((hf.fresh i).2 a ha).1
      rw [hu] at z
      cases z
  · obtain ⟨u, hu⟩ := hf.there i a ha
    exact ⟨u, s.e1 a u hu⟩
end
end J
/-! J3: expressions: names, constants, operators, comparisons -/
namespace J
open PySem L2

/-- what a value is, whoever holds it -/
def D.un : D → D
  | .mv d => d
  | d => d
/-- the items of a list -/
def D.items : D → Option (List D)
  | .lst ds => some ds
  | .olst ds => some ds
  | .scr ns => some (ns.map .int)
  | .oll dss => none
  | _ => none
/-- of a list that the program made -/
def D.list : D → Option (List D)
  | .lst ds => some ds
  | .olst ds => some ds
  | _ => none
section
variable {K : PySem.W.Frag} {H0 H1 G0 G : Hp} {δ : List DV} {σ : L2.St} {v w : V} {p q : List Addr}
theorem Res.un {d : D} (h : Res K H1 G0 G v d) : ∃ p, Own K G0 G p v d.un := by
  cases d with
  | mv d =>
    obtain ⟨p, h, _⟩ := h
    exact ⟨p, h⟩
  | _ => exact h
theorem Own.rep {d : D} (h : Own K H0 H1 p v d) (n1 : ∀ ds, d ≠ .olst ds := by intro _ z; cases z) (n2 : ∀ ds, d ≠ .oll ds := by intro _ z; cases z) (n3 : ∀ C gs, d ≠ .oobj C gs := by intro _ _ z; cases z) : Rep K H0 v d := by
  cases h with
  | one r =>
    cases r with
    | leaf r => exact r
    | olst _ _ => exact absurd rfl (n1 _)
    | oll _ _ => exact absurd rfl (n2 _)
  | oobj _ _ => exact absurd rfl (n3 _ _)
theorem Own.int {i : Int} (h : Own K H0 H1 p v (.int i)) : v = .int i := by cases h.rep; rfl
theorem Own.bl {i : Bool} (h : Own K H0 H1 p v (.bl i)) : v = .bl i := by cases h.rep; rfl
theorem Own.non (h : Own K H0 H1 p v .non) : v = .non := by cases h.rep; rfl
theorem Own.str {x : Str} (h : Own K H0 H1 p v (.str x)) : v = .str x := by cases h.rep; rfl
theorem Own.list {d : D} {ds : List D} (h : Own K H0 H1 p v d) (e : Same H0 H1) (q : d.list = some ds) : ∃ a vs, v = .ref a ∧ H1 a = some (.lst vs) ∧ RepL K H0 vs ds := by
  cases d with
  | lst es =>
    cases q
    cases h.rep with
    | lst h1 h2 => exact ⟨_, _, rfl, e _ _ h1, h2⟩
  | olst es =>
    cases q
    cases h with
    | one r =>
      cases r with
      | leaf r => cases r
      | olst h1 h2 => exact ⟨_, _, rfl, h1, h2⟩
  | _ => cases q
theorem Own.items {d : D} {ds : List D} (h : Own K H0 H1 p v d) (e : Same H0 H1) (q : d.items = some ds) : ∃ a vs, v = .ref a ∧ SqL K H1 a vs ∧ RepL K H0 vs ds := by
  cases d with
  | lst es =>
    obtain ⟨a, vs, h1, h2, h3⟩ := h.list e (ds := es) rfl
    cases q
    exact ⟨a, vs, h1, .of h2, h3⟩
  | olst es =>
    obtain ⟨a, vs, h1, h2, h3⟩ := h.list e (ds := es) rfl
    cases q
    exact ⟨a, vs, h1, .of h2, h3⟩
  | scr ns =>
    cases q
    cases h.rep with
    | scr h1 => exact ⟨_, _, rfl, e.seq h1, RepL.ofInts ns⟩
  | _ => cases q
theorem Own.tup {ds : List D} (h : Own K H0 H1 p v (.tup ds)) (e : Same H0 H1) : ∃ a vs, v = .ref a ∧ H1 a = some (.tup vs) ∧ RepL K H0 vs ds := by
  cases h.rep with
  | tup h1 h2 => exact ⟨_, _, rfl, e _ _ h1, h2⟩
theorem Own.of {d : D} (r : Rep K H0 v d) : Own K H0 H1 [] v d := .one (.leaf r)
/-- a plain answer that needs no new object -/
theorem Kont.val {P : D → Prop} {Q : VK} {d : D} (k : Kont K H0 H1 P Q) (e : Same H0 H1) (h : P d) (r : Rep K H0 v d) : Q v H1 := k v d H0 H1 h (Step.refl e) (Res.rep r)
/-- a new list -/
theorem Kont.lst {P : D → Prop} {Q : VK} {ds : List D} {vs : List V} (k : Kont K H0 H1 P Q) (e : Same H0 H1) (h : P (.mv (.olst ds))) (r : RepL K H0 vs ds) : ∀ a, H1 a = none → Q (.ref a) (upd H1 a (.lst vs)) := fun a ha =>
  k _ (.mv (.olst ds)) H0 _ h (Step.newO e ha) ⟨[a], .one (.olst upd_same r), List.nodup_cons.mpr ⟨List.not_mem_nil, List.nodup_nil⟩, fun b hb => by
    rcases List.mem_cons.mp hb with z | z
    · rw [z]
      exact ⟨e.free ha, ha⟩
    · cases z⟩
/-- a new tuple -/
theorem Kont.tup {P : D → Prop} {Q : VK} {ds : List D} {vs : List V} (k : Kont K H0 H1 P Q) (e : Same H0 H1) (h : P (.tup ds)) (r : RepL K H0 vs ds) : ∀ a, H1 a = none → Q (.ref a) (upd H1 a (.tup vs)) := fun a ha =>
  k _ (.tup ds) _ _ h (Step.new e ha) (Res.rep (.tup upd_same (r.to (same_new (e.free ha)))))
end

/-! ### names, constants -/
def dVar (i : Nat) : DE := fun δ P => match (δ[i]?).bind DV.see with
  | some d => P d
  | none => False
def dC (d : D) : DE := fun _ P => P d
section
variable {X : Cx} {e a b : Expr} {i : Nat} {d : D} {v : V}
theorem pd_var (h : PE X e (tVar i)) : PEd X e (tVar i) (dVar i) := by
  refine ⟨h, fun δ P h H0 H1 σ Q e env k => ?_⟩
  unfold dVar at h
  cases q : (δ[i]?).bind DV.see with
  | none => rw [q] at h; exact h.elim
  | some d =>
    rw [q] at h
    obtain ⟨v, p, h1, h2⟩ := env.at_ i d q
    exact ⟨v, h1, k v d H0 H1 h (Step.refl e) (Res.plain h2)⟩
theorem pd_c (h : PE X e (tC v)) (r : ∀ H, Rep X.K H v d) : PEd X e (tC v) (dC d) := ⟨h, fun δ P h H0 H1 σ Q e env k => k.val e h (r H0)⟩
theorem pd_int {i j pos} : PEd X (.Constant (.int i) j pos) (tC (.int i)) (dC (.int i)) := pd_c pe_int fun _ => .int i
theorem pd_bl {b j pos} : PEd X (.Constant (.bool b) j pos) (tC (.bl b)) (dC (.bl b)) := pd_c pe_bl fun _ => .bl b
theorem pd_non {j pos} : PEd X (.Constant .none j pos) (tC .non) (dC .non) := pd_c pe_non fun _ => .non
theorem pd_str {x j pos} : PEd X (.Constant (.str x) j pos) (tC (.str x)) (dC (.str x)) := pd_c pe_str fun _ => .str x

/-! ### made plain -/
/-- a value handed over is kept as it is: from now on it doesn't change -/
def dFz (ta : DE) : DE := fun δ P => ta δ fun x => P (match x with | .mv d => frz (.mv d) | d => d)
theorem Res.fz {K : PySem.W.Frag} {H0 H1 G0 G : Hp} {v : V} {d : D} (s : Step H0 H1 G0 G) (h : Res K H1 G0 G v (.mv d)) : ∃ I0, Step H0 H1 I0 G ∧ Rep K I0 v (frz (.mv d)) := by
  obtain ⟨p, h, n, f⟩ := h
  refine ⟨more G0 G p, ⟨s.e1, s.e0.trans (more_same s.e2), more_sub s.e2, fun a o q n => ?_⟩, h.frz_mv s.e2 (more_same s.e2) fun a ha o ho => by rw [more_in ha]; exact ho⟩
  by_cases c : a ∈ p
  · exact (f a c).2
  · rw [more_out c] at q
    exact s.fr a o q n
theorem pd_fz {ta : DE} (h : PEd X e ua ta) : PEd X e ua (dFz ta) := by
  obtain ⟨h1, h2⟩ := h
  refine ⟨h1, fun δ P hT H0 H1 σ Q e env k => h2 δ _ hT H0 H1 σ Q e env fun v d G0 G hp s r => ?_⟩
  cases d with
  | mv d =>
    obtain ⟨I0, s2, r2⟩ := Res.fz s r
    exact k v _ I0 G hp s2 (Res.rep r2)
  | _ => exact k v _ G0 G hp s r

/-! ### two operands -/
def OpD (K : PySem.W.Frag) (r : R2) (g : D → D → (D → Prop) → Prop) : Prop :=
  ∀ x y P, g x y P → ∀ v w H0 H1 p q Q, Same H0 H1 → Own K H0 H1 p v x → Own K H0 H1 q w y → Kont K H0 H1 P Q → r v w H1 Q
def dOp (g : D → D → (D → Prop) → Prop) (ta tb : DE) : DE := fun δ P => ta δ fun x => tb δ fun y => g x.un y.un P
theorem pd_op {e : Expr} {r : R2} {g : D → D → (D → Prop) → Prop} {ta tb : DE} (hp : ∀ ta tb, PE X a ta → PE X b tb → PE X e (tOp r ta tb)) (hg : OpD X.K r g) (ha : PEd X a ua ta) (hb : PEd X b ub tb) : PEd X e (tOp r ua ub) (dOp g ta tb) := by
  obtain ⟨a1, a2⟩ := ha
  obtain ⟨b1, b2⟩ := hb
  refine ⟨hp _ _ a1 b1, fun δ P hT H0 H1 σ Q e env k => ?_⟩
  refine a2 δ _ hT H0 H1 σ _ e env fun v x G0 G hx s r1 => ?_
  refine b2 δ _ hx G0 G σ _ s.e2 (env.to s.e0 s.e1) fun w y I0 I hy s2 r2 => ?_
  obtain ⟨p, o1⟩ := (r1.to s2).un
  obtain ⟨q, o2⟩ := r2.un
  exact hg _ _ _ hy v w I0 I p q Q s2.e2 o1 o2 (k.after (s.trans s2))
theorem pd_bin {op : Operator} {pos : Pos} {r : R2} {g : D → D → (D → Prop) → Prop} {ta tb : DE} (ho : OpR X (binaryOp op) r) (hg : OpD X.K r g) (ha : PEd X a ua ta) (hb : PEd X b ub tb) : PEd X (.BinOp a op b pos) (tOp r ua ub) (dOp g ta tb) :=
  pd_op (fun _ _ h1 h2 => pe_op ho h1 h2) hg ha hb
theorem pd_cmp {op : CmpOp} {pos : Pos} {r : R2} {g : D → D → (D → Prop) → Prop} {ta tb : DE} (ho : OpR X (compareOp op) r) (hg : OpD X.K r g) (ha : PEd X a ua ta) (hb : PEd X b ub tb) (hm : behindInMarks op b = false := by first | exact nobehind _ (by decide) (by decide) | rfl) :
    PEd X (.Compare a [op] [b] pos) (tOp r ua ub) (dOp g ta tb) := pd_op (fun _ _ h1 h2 => pe_cmpR ho h1 h2 hm) hg ha hb
/-- either of two rules -/
theorem OpR.either {f : Value → Value → Sem Value} {r r' : R2} (h : OpR X f r) (h' : OpR X f r') : OpR X f (fun x y H Q => r x y H Q ∨ r' x y H Q) := fun pins s σ H x y v u Q I rx ry hq => by
  rcases hq with hq | hq
  · exact h pins s σ H x y v u Q I rx ry hq
  · exact h' pins s σ H x y v u Q I rx ry hq
end

def gI (C : Int → Int → Prop) (f : Int → Int → D) : D → D → (D → Prop) → Prop := fun x y P => match x, y with
  | .int i, .int j => C i j ∧ P (f i j)
  | _, _ => False
def gI0 (f : Int → Int → D) : D → D → (D → Prop) → Prop := fun x y P => match x, y with
  | .int i, .int j => P (f i j)
  | _, _ => False
section
variable {K : PySem.W.Frag}
theorem gI_inv {C : Int → Int → Prop} {f : Int → Int → D} {x y : D} {P : D → Prop} (h : gI C f x y P) : ∃ i j, x = .int i ∧ y = .int j ∧ C i j ∧ P (f i j) := by
  cases x <;> first | exact h.elim | skip
  cases y <;> first | exact h.elim | skip
  exact ⟨_, _, rfl, rfl, h.1, h.2⟩
theorem gI0_inv {f : Int → Int → D} {x y : D} {P : D → Prop} (h : gI0 f x y P) : ∃ i j, x = .int i ∧ y = .int j ∧ P (f i j) := by
  cases x <;> first | exact h.elim | skip
  cases y <;> first | exact h.elim | skip
  exact ⟨_, _, rfl, rfl, h⟩
/-- ints alone -/
theorem od_I {C : Int → Int → Prop} {f : Int → Int → V} {g : Int → Int → D} (hr : ∀ i j H, Rep K H (f i j) (g i j)) : OpD K (rI C f) (gI C g) := fun x y P h v w H0 H1 p q Q e o1 o2 k => by
  obtain ⟨i, j, rfl, rfl, hc, hp⟩ := gI_inv h
  exact ⟨i, j, o1.int, o2.int, hc, k.val e hp (hr i j H0)⟩
theorem od_I0 {f : Int → Int → V} {g : Int → Int → D} (hr : ∀ i j H, Rep K H (f i j) (g i j)) : OpD K (rI0 f) (gI0 g) := fun x y P h v w H0 H1 p q Q e o1 o2 k => by
  obtain ⟨i, j, rfl, rfl, hp⟩ := gI0_inv h
  exact ⟨i, j, o1.int, o2.int, k.val e hp (hr i j H0)⟩
end
theorem sz5 {n : Nat} (h : n ≤ 100000) : n ≤ sizeLine := Nat.le_trans h (by decide)
/-- a + b: ints; lists: a new one -/
def gAdd : D → D → (D → Prop) → Prop := fun x y P => match x, y with
  | .int i, .int j => P (.int (i + j))
  | x, y => match x.list, y.list with
    | some a, some b => a.length + b.length ≤ 100000 ∧ P (.mv (.olst (a ++ b)))
    | _, _ => False
theorem gAdd_inv {x y : D} {P : D → Prop} (h : gAdd x y P) : (∃ i j, x = .int i ∧ y = .int j ∧ P (.int (i + j))) ∨ (∃ a b, x.list = some a ∧ y.list = some b ∧ a.length + b.length ≤ 100000 ∧ P (.mv (.olst (a ++ b)))) := by
  have key : (match x.list, y.list with
    | some a, some b => a.length + b.length ≤ 100000 ∧ P (.mv (.olst (a ++ b)))
    | _, _ => False) → (∃ a b, x.list = some a ∧ y.list = some b ∧ a.length + b.length ≤ 100000 ∧ P (.mv (.olst (a ++ b)))) := fun z => by
    cases e1 : x.list with
    | none => rw [e1] at z; cases z
    | some a =>
      cases e2 : y.list with
      | none => rw [e1, e2] at z; cases z
      | some b =>
        rw [e1, e2] at z
        exact ⟨a, b, rfl, rfl, z.1, z.2⟩
  cases x with
  | int i =>
    cases y with
    | int j => exact .inl ⟨i, j, rfl, rfl, h⟩
    | _ => exact .inr (key h)
  | _ => exact .inr (key h)
section
variable {X : Cx}
theorem pd_add {a b : Expr} {ta tb : DE} {pos : Pos} (ha : PEd X a ua ta) (hb : PEd X b ub tb) : PEd X (.BinOp a .Add b pos) (tOp (fun x y H Q => rI0 (fun i j => .int (i + j)) x y H Q ∨ rCat x y H Q) ua ub) (dOp gAdd ta tb) := by
  refine pd_bin (OpR.either op_add op_cat) (fun x y P h v w H0 H1 p q Q e o1 o2 k => ?_) ha hb
  rcases gAdd_inv h with ⟨i, j, rfl, rfl, hp⟩ | ⟨as, bs, e1, e2, hl, hp⟩
  · exact .inl ⟨i, j, o1.int, o2.int, k.val e hp (.int _)⟩
  · obtain ⟨a1, vs, rfl, h1, r1⟩ := o1.list e e1
    obtain ⟨a2, ws, rfl, h2, r2⟩ := o2.list e e2
    exact .inr ⟨a1, a2, vs, ws, rfl, rfl, h1, h2, sz5 (by rw [r1.len, r2.len]; exact hl), k.lst e hp (r1.app r2)⟩
theorem pd_sub {a b : Expr} {ta tb : DE} {pos : Pos} (ha : PEd X a ua ta) (hb : PEd X b ub tb) : PEd X (.BinOp a .Sub b pos) (tOp (rI0 fun i j => .int (i - j)) ua ub) (dOp (gI0 fun i j => .int (i - j)) ta tb) := pd_bin op_sub (od_I0 fun i j _ => .int _) ha hb
/-- a * b: one of them small; a list, again and again -/
def gMul : D → D → (D → Prop) → Prop := fun x y P => match x, y with
  | .int i, .int j => CMul i j ∧ P (.int (i * j))
  | x, .int k => match x.list with
    | some a => 0 ≤ k ∧ k ≤ 1000 ∧ a.length ≤ 1000 ∧ P (.mv (.olst (List.replicate k.toNat a).flatten))
    | none => False
  | _, _ => False
theorem RepL.rep {K : PySem.W.Frag} {H : Hp} {vs : List V} {ds : List D} (h : RepL K H vs ds) : ∀ n : Nat, RepL K H (List.replicate n vs).flatten (List.replicate n ds).flatten
  | 0 => .nil
  | n + 1 => by
    rw [List.replicate_succ, List.replicate_succ, List.flatten_cons, List.flatten_cons]
    exact h.app (h.rep n)
theorem gMul_inv {x y : D} {P : D → Prop} (h : gMul x y P) : (∃ i j, x = .int i ∧ y = .int j ∧ CMul i j ∧ P (.int (i * j))) ∨ (∃ a k, x.list = some a ∧ y = .int k ∧ 0 ≤ k ∧ k ≤ 1000 ∧ a.length ≤ 1000 ∧ P (.mv (.olst (List.replicate k.toNat a).flatten))) := by
  have key : ∀ k, y = .int k → (match x.list with
    | some a => 0 ≤ k ∧ k ≤ 1000 ∧ a.length ≤ 1000 ∧ P (.mv (.olst (List.replicate k.toNat a).flatten))
    | none => False) → (∃ a k, x.list = some a ∧ y = .int k ∧ 0 ≤ k ∧ k ≤ 1000 ∧ a.length ≤ 1000 ∧ P (.mv (.olst (List.replicate k.toNat a).flatten))) := fun k ey z => by
    cases e1 : x.list with
    | none => rw [e1] at z; cases z
    | some a =>
      rw [e1] at z
      exact ⟨a, k, rfl, ey, z⟩
  cases x with
  | int i =>
    cases y with
    | int j => exact .inl ⟨i, j, rfl, rfl, h.1, h.2⟩
    | _ => exact h.elim
  | _ =>
    cases y with
    | int k => exact .inr (key k rfl h)
    | _ => exact h.elim
theorem pd_mul {a b : Expr} {ta tb : DE} {pos : Pos} (ha : PEd X a ua ta) (hb : PEd X b ub tb) : PEd X (.BinOp a .Mult b pos) (tOp (fun x y H Q => rI CMul (fun i j => .int (i * j)) x y H Q ∨ rRep x y H Q) ua ub) (dOp gMul ta tb) := by
  refine pd_bin (OpR.either op_mul op_rep) (fun x y P h v w H0 H1 p q Q e o1 o2 k => ?_) ha hb
  rcases gMul_inv h with ⟨i, j, rfl, rfl, hc, hp⟩ | ⟨as, n, e1, rfl, h0, h1, hl, hp⟩
  · exact .inl ⟨i, j, o1.int, o2.int, hc, k.val e hp (.int _)⟩
  · obtain ⟨a1, vs, rfl, hv, r1⟩ := o1.list e e1
    refine .inr ⟨a1, n, vs, rfl, o2.int, hv, by omega, by omega, ?_, k.lst e hp (r1.rep n.toNat)⟩
    have hn : n.toNat ≤ 1000 := by omega
    have := Nat.mul_le_mul (show vs.length ≤ 1000 by rw [r1.len]; exact hl) hn
    exact Nat.le_trans this (by decide)
theorem pd_mod {a b : Expr} {ta tb : DE} {pos : Pos} (ha : PEd X a ua ta) (hb : PEd X b ub tb) : PEd X (.BinOp a .Mod b pos) (tOp (rI (fun _ j => j ≠ 0) fun i j => .int (i.fmod j)) ua ub) (dOp (gI (fun _ j => j ≠ 0) fun i j => .int (i.fmod j)) ta tb) := pd_bin op_modN (od_I fun i j _ => .int _) ha hb
theorem pd_fdiv {a b : Expr} {ta tb : DE} {pos : Pos} (ha : PEd X a ua ta) (hb : PEd X b ub tb) : PEd X (.BinOp a .FloorDiv b pos) (tOp (rI CDivN fun i j => .int (i.fdiv j)) ua ub) (dOp (gI CDivN fun i j => .int (i.fdiv j)) ta tb) := pd_bin op_fdivN (od_I fun i j _ => .int _) ha hb
theorem pd_pow {a b : Expr} {ta tb : DE} {pos : Pos} (ha : PEd X a ua ta) (hb : PEd X b ub tb) : PEd X (.BinOp a .Pow b pos) (tOp (rI CPow fun i j => .int (i ^ j.toNat)) ua ub) (dOp (gI CPow fun i j => .int (i ^ j.toNat)) ta tb) := pd_bin op_pow (od_I fun i j _ => .int _) ha hb
abbrev gLt := gI0 fun i j => D.bl (decide (i < j))
abbrev gLe := gI0 fun i j => D.bl (decide (i ≤ j))
abbrev gGt := gI0 fun i j => D.bl (decide (j < i))
abbrev gGe := gI0 fun i j => D.bl (decide (j ≤ i))
end
end J
/-! J4: equality, in, tests, and, or, not, chains -/
namespace J
open PySem L2

/-! ### data as the library compares it -/
mutual
def D.py : D → PyData
  | .non => .none
  | .bl b => .bool b
  | .int i => .int i
  | .str x => .str x
  | .lst ds => .list (pyL ds)
  | .tup ds => .tuple (pyL ds)
  | .olst ds => .list (pyL ds)
  | .oll dss => .list (pyLL dss)
  | .scr ns => .list (ns.map .int)
  | .obj _ _ => .none
  | .dct _ => .none
  | .fn _ => .none
  | .oobj _ _ => .none
  | .mv _ => .none
def pyL : List D → List PyData
  | [] => []
  | d :: ds => d.py :: pyL ds
def pyLL : List (List D) → List PyData
  | [] => []
  | ds :: dss => .list (pyL ds) :: pyLL dss
end
mutual
def D.isPy : D → Bool
  | .lst ds => isPyL ds
  | .tup ds => isPyL ds
  | .olst ds => isPyL ds
  | .oll dss => isPyLL dss
  | .obj _ _ => false
  | .dct _ => false
  | .fn _ => false
  | .oobj _ _ => false
  | .mv _ => false
  | _ => true
def isPyL : List D → Bool
  | [] => true
  | d :: ds => d.isPy && isPyL ds
def isPyLL : List (List D) → Bool
  | [] => true
  | ds :: dss => isPyL ds && isPyLL dss
end
section
variable {K : PySem.W.Frag} {H0 H1 : Hp}
mutual
theorem Rep.dp : ∀ (d : D) (v : V), d.isPy = true → Rep K H0 v d → Dp K H0 v d.py
  | .non, _, _, h => by cases h; exact .non
  | .bl b, _, _, h => by cases h; exact .bl b
  | .int i, _, _, h => by cases h; exact .int i
  | .str x, _, _, h => by cases h; exact .str x
  | .lst ds, _, i, h => by
    cases h with
    | lst h1 h2 => exact .lst (.of h1) (RepL.dp ds _ i h2)
  | .tup ds, _, i, h => by
    cases h with
    | tup h1 h2 => exact .tup (.of h1) (RepL.dp ds _ i h2)
  | .scr ns, _, _, h => by
    cases h with
    | scr h1 => exact .lst h1 (dpInts ns)
  | .obj _ _, _, i, _ => by cases i
  | .dct _, _, i, _ => by cases i
  | .fn _, _, i, _ => by cases i
  | .olst _, _, _, h => by cases h
  | .oll _, _, _, h => by cases h
  | .oobj _ _, _, _, h => by cases h
  | .mv _, _, _, h => by cases h
theorem RepL.dp : ∀ (ds : List D) (vs : List V), isPyL ds = true → RepL K H0 vs ds → DpAll K H0 vs (pyL ds)
  | [], _, _, h => by cases h; exact .nil
  | d :: ds, _, i, h => by
    cases h with
    | cons h1 h2 =>
      have q := Bool.and_eq_true_iff.mp (show (d.isPy && isPyL ds) = true from i)
      exact .cons (Rep.dp d _ q.1 h1) (RepL.dp ds _ q.2 h2)
theorem dpInts : ∀ ns : List Int, DpAll K H0 (ns.map V.int) (ns.map PyData.int)
  | [] => .nil
  | n :: ns => .cons (.int n) (dpInts ns)
end
mutual
theorem dp_mono (e : Same H0 H1) : ∀ (d : PyData) (v : V), Dp K H0 v d → Dp K H1 v d
  | .none, _, h => by cases h; exact .non
  | .bool _, _, h => by cases h; exact .bl _
  | .int _, _, h => by cases h; exact .int _
  | .str _, _, h => by cases h; exact .str _
  | .list ds, _, h => by
    cases h with
    | lst h1 h2 => exact .lst (e.seq h1) (dps_mono e ds _ h2)
  | .tuple ds, _, h => by
    cases h with
    | tup h1 h2 =>
      refine .tup ?_ (dps_mono e ds _ h2)
      rcases h1 with (h1 | ⟨o, h1⟩) | h1
      · exact .inl (.inl (e _ _ h1))
      · exact .inl (.inr ⟨o, e _ _ h1⟩)
      · exact .inr h1
  | .dict _, _, h => by cases h
theorem dps_mono (e : Same H0 H1) : ∀ (ds : List PyData) (vs : List V), DpAll K H0 vs ds → DpAll K H1 vs ds
  | [], _, h => by cases h; exact .nil
  | d :: ds, _, h => by
    cases h with
    | cons h1 h2 => exact .cons (dp_mono e d _ h1) (dps_mono e ds _ h2)
end
theorem RepLL.dp (e : Same H0 H1) : ∀ (dss : List (List D)) (as : List Addr), isPyLL dss = true → RepLL K H0 H1 as dss → DpAll K H1 (as.map V.ref) (pyLL dss)
  | [], _, _, h => by cases h; exact .nil
  | ds :: dss, _, i, h => by
    cases h with
    | cons h r t =>
      have q := Bool.and_eq_true_iff.mp (show (isPyL ds && isPyLL dss) = true from i)
      exact .cons (.lst (.of h) (dps_mono e _ _ (RepL.dp _ _ q.1 r))) (RepLL.dp e dss _ q.2 t)
theorem Own.dp {p : List Addr} {v : V} {d : D} (e : Same H0 H1) (i : d.isPy = true) (h : Own K H0 H1 p v d) : Dp K H1 v d.py := by
  cases h with
  | one r =>
    cases r with
    | leaf r => exact dp_mono e _ _ (Rep.dp d v i r)
    | olst h r => exact .lst (.of h) (dps_mono e _ _ (RepL.dp _ _ i r))
    | oll h r => exact .lst (.of h) (RepLL.dp e _ _ i r)
  | oobj _ _ => cases i
end
/-- data that may be compared: how deep -/
def D.cmpOk (d : D) : Bool := d.isPy && SeqAt.shaped d.py
def gEq : D → D → (D → Prop) → Prop := fun x y P => x.cmpOk = true ∧ y.cmpOk = true ∧ P (.bl (PyData.eqv x.py y.py))
def gNe : D → D → (D → Prop) → Prop := fun x y P => x.cmpOk = true ∧ y.cmpOk = true ∧ P (.bl (!PyData.eqv x.py y.py))
theorem cmpOk_and {d : D} (h : d.cmpOk = true) : d.isPy = true ∧ SeqAt.shaped d.py = true := Bool.and_eq_true_iff.mp h
section
variable {X : Cx} {a b : Expr} {ta tb : DE} {pos : Pos}
theorem od_eq {K : PySem.W.Frag} : OpD K (rEqD K) gEq := fun x y P h v w H0 H1 p q Q e o1 o2 k => ⟨_, _, o1.dp e (cmpOk_and h.1).1, o2.dp e (cmpOk_and h.2.1).1, (cmpOk_and h.1).2, (cmpOk_and h.2.1).2, k.val e h.2.2 (.bl _)⟩
theorem od_ne {K : PySem.W.Frag} : OpD K (rNeD K) gNe := fun x y P h v w H0 H1 p q Q e o1 o2 k => ⟨_, _, o1.dp e (cmpOk_and h.1).1, o2.dp e (cmpOk_and h.2.1).1, (cmpOk_and h.1).2, (cmpOk_and h.2.1).2, k.val e h.2.2 (.bl _)⟩
/-- x in xs -/
def gIn : D → D → (D → Prop) → Prop := fun x y P => match y.items with
  | some ds => x.cmpOk = true ∧ (D.lst ds).cmpOk = true ∧ P (.bl ((pyL ds).any fun z => PyData.eqv z x.py))
  | none => False
def gNotIn : D → D → (D → Prop) → Prop := fun x y P => match y.items with
  | some ds => x.cmpOk = true ∧ (D.lst ds).cmpOk = true ∧ P (.bl (!(pyL ds).any fun z => PyData.eqv z x.py))
  | none => False
theorem items_dp {K : PySem.W.Frag} {H0 H1 : Hp} {p : List Addr} {v : V} {d : D} {ds : List D} (e : Same H0 H1) (o : Own K H0 H1 p v d) (q : d.items = some ds) (c : (D.lst ds).cmpOk = true) : Dp K H1 v (.list (pyL ds)) := by
  obtain ⟨a, vs, rfl, h1, h2⟩ := o.items e q
  exact .lst h1 (dps_mono e _ _ (RepL.dp ds _ (cmpOk_and c).1 h2))
theorem od_in {K : PySem.W.Frag} : OpD K (rInD K) gIn := fun x y P h v w H0 H1 p q Q e o1 o2 k => by
    unfold gIn at h
    cases i : y.items with
    | none => rw [i] at h; exact h.elim
    | some ds =>
      rw [i] at h
      exact ⟨_, _, o1.dp e (cmpOk_and h.1).1, items_dp e o2 i h.2.1, (cmpOk_and h.1).2, (cmpOk_and h.2.1).2, k.val e h.2.2 (.bl _)⟩
theorem od_notIn {K : PySem.W.Frag} : OpD K (rNotInD K) gNotIn := fun x y P h v w H0 H1 p q Q e o1 o2 k => by
    unfold gNotIn at h
    cases i : y.items with
    | none => rw [i] at h; exact h.elim
    | some ds =>
      rw [i] at h
      exact ⟨_, _, o1.dp e (cmpOk_and h.1).1, items_dp e o2 i h.2.1, (cmpOk_and h.1).2, (cmpOk_and h.2.1).2, k.val e h.2.2 (.bl _)⟩
/-- kind in (one, other): flat things -/
def D.flat : D → Bool
  | .bl _ => true
  | .int _ => true
  | _ => false
def gInT : D → D → (D → Prop) → Prop := fun x y P => match x, y with
  | .int i, .tup [.int j, .int k] => P (.bl (decide (i = j) || decide (i = k)))
  | _, _ => False
theorem eqV_int (i j : Int) : eqV (.int i) (.int j) = decide (i = j) := by
  first | rfl | exact Bool.beq_eq_decide_eq i j | (unfold eqV; simp)
theorem od_inT {K : PySem.W.Frag} : OpD K (rIn K false) gInT := fun x y P h v w H0 H1 p q Q e o1 o2 k => by
  unfold gInT at h
  split at h
  · rename_i i j l
    obtain ⟨a, vs, rfl, h1, h2⟩ := o2.tup e
    have ev : vs = [.int j, .int l] := by
      have z : [D.int j, D.int l] = [j, l].map D.int := rfl
      rw [z] at h2
      exact h2.ints
    subst ev
    rw [o1.int]
    refine ⟨a, _, rfl, .inr (.of h1), rfl, rfl, ?_⟩
    have z : inV (.int i) [.int j, .int l] = (decide (i = j) || decide (i = l)) := by
      show (eqV (.int j) (.int i) || (eqV (.int l) (.int i) || false)) = _
      rw [eqV_int, eqV_int, Bool.or_false]
      congr 1 <;> exact decide_eq_decide.mpr ⟨Eq.symm, Eq.symm⟩
    show Q (.bl (if false = true then _ else _)) H1
    rw [if_neg Bool.false_ne_true, z]
    exact k.val e h (.bl _)
  · exact h.elim
/-! ### is -/
def gIs (f : Bool → Bool → Bool) : D → D → (D → Prop) → Prop := fun x y P => match x, y with
  | .bl i, .bl j => P (.bl (f i j))
  | _, _ => False
theorem od_is {K : PySem.W.Frag} : OpD K rIsB (gIs fun i j => decide (i = j)) := fun x y P h v w H0 H1 p q Q e o1 o2 k => by
  unfold gIs at h
  split at h
  · exact ⟨_, _, o1.bl, o2.bl, k.val e h (.bl _)⟩
  · exact h.elim
theorem od_isNot {K : PySem.W.Frag} : OpD K rNotB (gIs fun i j => !decide (i = j)) := fun x y P h v w H0 H1 p q Q e o1 o2 k => by
  unfold gIs at h
  split at h
  · exact ⟨_, _, o1.bl, o2.bl, k.val e h (.bl _)⟩
  · exact h.elim
def D.isNon : D → Bool
  | .non => true
  | _ => false
theorem own_non {K : PySem.W.Frag} {H0 H1 : Hp} {p : List Addr} {v : V} {d : D} (o : Own K H0 H1 p v d) : decide (v = .non) = d.isNon := by
  cases o with
  | one r =>
    cases r with
    | leaf r => cases r <;> rfl
    | olst _ _ => rfl
    | oll _ _ => rfl
  | oobj _ _ => rfl
def dU (g : D → D) (ta : DE) : DE := fun δ P => ta δ fun x => P (g x.un)
theorem pd_isNon {j p2} (ha : PEd X a ua ta) : PEd X (.Compare a [.Is] [.Constant .none j p2] pos) (tIsN ua) (dU (fun x => .bl x.isNon) ta) := by
  obtain ⟨a1, a2⟩ := ha
  refine ⟨pe_cmp (pc_isN a1) (by rfl), fun δ P hT H0 H1 σ Q e env k => a2 δ _ hT H0 H1 σ _ e env fun v x G0 G hx s r => ?_⟩
  obtain ⟨p, o⟩ := r.un
  rw [own_non o]
  exact (k.after s).val s.e2 hx (.bl _)
theorem pd_notNon {j p2} (ha : PEd X a ua ta) : PEd X (.Compare a [.IsNot] [.Constant .none j p2] pos) (tNotN ua) (dU (fun x => .bl (!x.isNon)) ta) := by
  obtain ⟨a1, a2⟩ := ha
  refine ⟨pe_cmp (pc_notN a1) (by rfl), fun δ P hT H0 H1 σ Q e env k => a2 δ _ hT H0 H1 σ _ e env fun v x G0 G hx s r => ?_⟩
  obtain ⟨p, o⟩ := r.un
  rw [own_non o]
  exact (k.after s).val s.e2 hx (.bl _)

/-! ### tests -/
def asB (x : D) (P : Bool → Prop) : Prop := match x with
  | .bl b => P b
  | _ => False
theorem asB_inv {x : D} {P : Bool → Prop} (h : asB x P) : ∃ b, x = .bl b ∧ P b := by
  cases x <;> first | exact h.elim | exact ⟨_, rfl, h⟩
def dT (ta : DE) : DT := fun δ P => ta δ fun x => asB x P
theorem res_bl {K : PySem.W.Frag} {H1 G0 G : Hp} {v : V} {b : Bool} (r : Res K H1 G0 G v (.bl b)) : v = .bl b := by
  obtain ⟨p, o⟩ := r
  exact o.bl
/-- an expression as a test -/
theorem pt_e {e : Expr} (h : PEd X e ua ta) (he : ∀ whole, isTrue e X.env whole = (do let v ← whole; standAt e.pos; holding [v] (truthy v)) := by intro _; rfl) : PTd X e (tB ua) (dT ta) := by
  obtain ⟨a1, a2⟩ := h
  refine ⟨pt_val a1 he, fun δ P hT H0 H1 σ Q e env k => a2 δ _ hT H0 H1 σ _ e env fun v x G0 G hx s r => ?_⟩
  obtain ⟨b, rfl, hp⟩ := asB_inv hx
  exact ⟨b, res_bl r, k b G hp s.e1⟩
theorem pt_cmp1 {op : CmpOp} {r : R2} {g : D → D → (D → Prop) → Prop} (ho : OpR X (compareOp op) r) (hg : OpD X.K r g) (ha : PEd X a ua ta) (hb : PEd X b ub tb) (hm : behindInMarks op b = false := by first | exact nobehind _ (by decide) (by decide) | rfl) :
    PTd X (.Compare a [op] [b] pos) (tTest (tOp r ua ub)) (dT (dOp g ta tb)) := by
  obtain ⟨c1, c2⟩ := ha
  obtain ⟨d1, d2⟩ := hb
  refine ⟨pt_cmpR ho c1 d1 hm, fun δ P hT H0 H1 σ Q e env k => ?_⟩
  refine c2 δ _ hT H0 H1 σ _ e env fun v x G0 G hx s r1 => ?_
  refine d2 δ _ hx G0 G σ _ s.e2 (env.to s.e0 s.e1) fun w y I0 I hy s2 r2 => ?_
  obtain ⟨p, o1⟩ := (r1.to s2).un
  obtain ⟨q, o2⟩ := r2.un
  refine hg _ _ _ hy v w I0 I p q _ s2.e2 o1 o2 fun u d J0 J hd s3 r3 => ?_
  obtain ⟨b, rfl, hp⟩ := asB_inv hd
  exact ⟨b, res_bl r3, k b J hp ((s.e1.trans s2.e1).trans s3.e1)⟩
theorem pt_isNon {j p2} (ha : PEd X a ua ta) : PTd X (.Compare a [.Is] [.Constant .none j p2] pos) (tB (tIsN ua)) (dT (dU (fun x => .bl x.isNon) ta)) := by
  obtain ⟨a1, a2⟩ := ha
  refine ⟨pt_cmp (pc_isN a1) (by rfl), fun δ P hT H0 H1 σ Q e env k => a2 δ _ hT H0 H1 σ _ e env fun v x G0 G hx s r => ?_⟩
  obtain ⟨p, o⟩ := r.un
  rw [own_non o]
  exact ⟨_, rfl, k _ G hx s.e1⟩
theorem pt_notNon {j p2} (ha : PEd X a ua ta) : PTd X (.Compare a [.IsNot] [.Constant .none j p2] pos) (tB (tNotN ua)) (dT (dU (fun x => .bl (!x.isNon)) ta)) := by
  obtain ⟨a1, a2⟩ := ha
  refine ⟨pt_cmp (pc_notN a1) (by rfl), fun δ P hT H0 H1 σ Q e env k => a2 δ _ hT H0 H1 σ _ e env fun v x G0 G hx s r => ?_⟩
  obtain ⟨p, o⟩ := r.un
  rw [own_non o]
  exact ⟨_, rfl, k _ G hx s.e1⟩
def dTn (t : DT) : DT := fun δ P => t δ fun b => P (!b)
def dTa (t u : DT) : DT := fun δ P => t δ fun b => match b with
  | true => u δ P
  | false => P false
def dTo (t u : DT) : DT := fun δ P => t δ fun b => match b with
  | true => P true
  | false => u δ P
theorem pt_n {e : Expr} {t : DT} (h : PTd X e ut t) : PTd X (.UnaryOp .Not e pos) (tNot ut) (dTn t) := by
  obtain ⟨a1, a2⟩ := h
  exact ⟨pt_not a1, fun δ P hT H0 H1 σ Q e env k => a2 δ _ hT H0 H1 σ _ e env fun b G hp s => k _ G hp s⟩
structure PWd (X : Cx) (e : Expr) (tt : TT) (T : DT) : Prop where
  p : PW X e tt
  s : SndT X.K tt T
theorem PWd.t {e : Expr} {t : DT} (h : PWd X e ut t) : PTd X e ut t := by
  obtain ⟨a1, a2⟩ := h
  exact ⟨a1.pt, a2⟩
theorem pw_a1 {e : Expr} {t : DT} (h : PTd X e ut t) : PWd X (.BoolOp .And [e] pos) ut t := by
  obtain ⟨a1, a2⟩ := h
  exact ⟨pw_and1 a1, a2⟩
theorem pw_o1 {e : Expr} {t : DT} (h : PTd X e ut t) : PWd X (.BoolOp .Or [e] pos) ut t := by
  obtain ⟨a1, a2⟩ := h
  exact ⟨pw_or1 a1, a2⟩
theorem pw_a {e e2 : Expr} {es : List Expr} {t u : DT} (h : PTd X e ut t) (h2 : PWd X (.BoolOp .And (e2 :: es) pos) uu u) : PWd X (.BoolOp .And (e :: e2 :: es) pos) (tAnd ut uu) (dTa t u) := by
  obtain ⟨a1, a2⟩ := h
  obtain ⟨b1, b2⟩ := h2
  refine ⟨pw_and a1 b1, fun δ P hT H0 H1 σ Q e env k => a2 δ _ hT H0 H1 σ _ e env fun b G hp s => ?_⟩
  cases b with
  | true =>
    rw [if_pos rfl]
    exact b2 δ _ hp H0 G σ Q (e.trans s) (env.to (Same.refl _) s) fun b I hp s2 => k b I hp (s.trans s2)
  | false =>
    rw [if_neg Bool.false_ne_true]
    exact k _ G hp s
theorem pw_o {e e2 : Expr} {es : List Expr} {t u : DT} (h : PTd X e ut t) (h2 : PWd X (.BoolOp .Or (e2 :: es) pos) uu u) : PWd X (.BoolOp .Or (e :: e2 :: es) pos) (tOr ut uu) (dTo t u) := by
  obtain ⟨a1, a2⟩ := h
  obtain ⟨b1, b2⟩ := h2
  refine ⟨pw_or a1 b1, fun δ P hT H0 H1 σ Q e env k => a2 δ _ hT H0 H1 σ _ e env fun b G hp s => ?_⟩
  cases b with
  | true =>
    rw [if_pos rfl]
    exact k _ G hp s
  | false =>
    rw [if_neg Bool.false_ne_true]
    exact b2 δ _ hp H0 G σ Q (e.trans s) (env.to (Same.refl _) s) fun b I hp s2 => k b I hp (s.trans s2)

/-! ### the same as values -/
def dAnd (ta tb : DE) : DE := fun δ P => ta δ fun x => asB x fun b => match b with
  | true => tb δ P
  | false => P (.bl false)
def dOr (ta tb : DE) : DE := fun δ P => ta δ fun x => asB x fun b => match b with
  | true => P (.bl true)
  | false => tb δ P
theorem pd_one {e : Expr} {op} (h : PEd X e ua ta) : PEd X (.BoolOp op [e] pos) ua ta := by
  obtain ⟨a1, a2⟩ := h
  exact ⟨pe_one a1, a2⟩
theorem pd_and {e e2 : Expr} {es : List Expr} (h : PEd X e ua ta) (h2 : PEd X (.BoolOp .And (e2 :: es) pos) ub tb) : PEd X (.BoolOp .And (e :: e2 :: es) pos) (tAndV ua ub) (dAnd ta tb) := by
  obtain ⟨a1, a2⟩ := h
  obtain ⟨b1, b2⟩ := h2
  refine ⟨pe_and a1 b1, fun δ P hT H0 H1 σ Q e env k => a2 δ _ hT H0 H1 σ _ e env fun v x G0 G hx s r => ?_⟩
  obtain ⟨b, rfl, hp⟩ := asB_inv hx
  refine ⟨b, res_bl r, ?_⟩
  cases b with
  | true =>
    rw [if_pos rfl]
    exact b2 δ _ hp G0 G σ Q s.e2 (env.to s.e0 s.e1) (k.after s)
  | false =>
    rw [if_neg Bool.false_ne_true]
    exact (k.after s).val s.e2 hp (.bl _)
theorem pd_or {e e2 : Expr} {es : List Expr} (h : PEd X e ua ta) (h2 : PEd X (.BoolOp .Or (e2 :: es) pos) ub tb) : PEd X (.BoolOp .Or (e :: e2 :: es) pos) (tOrV ua ub) (dOr ta tb) := by
  obtain ⟨a1, a2⟩ := h
  obtain ⟨b1, b2⟩ := h2
  refine ⟨pe_or a1 b1, fun δ P hT H0 H1 σ Q e env k => a2 δ _ hT H0 H1 σ _ e env fun v x G0 G hx s r => ?_⟩
  obtain ⟨b, rfl, hp⟩ := asB_inv hx
  refine ⟨b, res_bl r, ?_⟩
  cases b with
  | true =>
    rw [if_pos rfl]
    exact (k.after s).val s.e2 hp (.bl _)
  | false =>
    rw [if_neg Bool.false_ne_true]
    exact b2 δ _ hp G0 G σ Q s.e2 (env.to s.e0 s.e1) (k.after s)
def dNot (ta : DE) : DE := fun δ P => ta δ fun x => asB x fun b => P (.bl (!b))
theorem pd_not {e : Expr} (h : PEd X e ua ta) : PEd X (.UnaryOp .Not e pos) (tNotV ua) (dNot ta) := by
  obtain ⟨a1, a2⟩ := h
  refine ⟨pe_not a1, fun δ P hT H0 H1 σ Q e env k => a2 δ _ hT H0 H1 σ _ e env fun v x G0 G hx s r => ?_⟩
  obtain ⟨b, rfl, hp⟩ := asB_inv hx
  exact ⟨b, res_bl r, (k.after s).val s.e2 hp (.bl _)⟩
def dIf (t : DT) (ta tb : DE) : DE := fun δ P => t δ fun b => match b with
  | true => ta δ P
  | false => tb δ P
theorem pd_if {c e e2 : Expr} {t : DT} (hc : PTd X c ut t) (h : PEd X e ua ta) (h2 : PEd X e2 ub tb) : PEd X (.IfExp c e e2 pos) (tIf ut ua ub) (dIf t ta tb) := by
  obtain ⟨c1, c2⟩ := hc
  obtain ⟨a1, a2⟩ := h
  obtain ⟨b1, b2⟩ := h2
  refine ⟨pe_ifExp c1 a1 b1, fun δ P hT H0 H1 σ Q e env k => c2 δ _ hT H0 H1 σ _ e env fun b G hp s => ?_⟩
  have k2 : Kont X.K H0 G P Q := fun v d I0 I hp t r => k v d I0 I hp ⟨s.trans t.e1, t.e0, t.e2, fun a o q n => s.free (t.fr a o q n)⟩ (r.back s)
  cases b with
  | true =>
    rw [if_pos rfl]
    exact a2 δ _ hp H0 G σ Q (e.trans s) (env.to (Same.refl _) s) k2
  | false =>
    rw [if_neg Bool.false_ne_true]
    exact b2 δ _ hp H0 G σ Q (e.trans s) (env.to (Same.refl _) s) k2

/-! ### chains of comparisons -/
theorem od_le {K : PySem.W.Frag} : OpD K (rI0 fun i j => .bl (decide (i ≤ j))) gLe := od_I0 fun i j _ => .bl _
theorem od_lt {K : PySem.W.Frag} : OpD K (rI0 fun i j => .bl (decide (i < j))) gLt := od_I0 fun i j _ => .bl _
theorem od_gt {K : PySem.W.Frag} : OpD K (rI0 fun i j => .bl (decide (j < i))) gGt := od_I0 fun i j _ => .bl _
theorem od_ge {K : PySem.W.Frag} : OpD K (rI0 fun i j => .bl (decide (j ≤ i))) gGe := od_I0 fun i j _ => .bl _

def dCh (g g' : D → D → (D → Prop) → Prop) (ta tb tc : DE) : DE := fun δ P => ta δ fun x => tb δ fun y => g x.un y.un fun z => asB z fun b => match b with
  | true => tc δ fun w => g' y.un w.un P
  | false => P (.bl false)
theorem pd_chain {c : Expr} {tc : DE} {op op' : CmpOp} {r r' : R2} {g g' : D → D → (D → Prop) → Prop} (ho : OpR X (compareOp op) r) (ho' : OpR X (compareOp op') r') (hg : OpD X.K r g) (hg' : OpD X.K r' g') (ha : PEd X a ua ta) (hb : PEd X b ub tb) (hc : PEd X c uc tc)
    (hm : lastMarks [op, op'] [b, c] = false := by with_unfolding_all rfl) : PEd X (.Compare a [op, op'] [b, c] pos) (tChain r r' ua ub uc) (dCh g g' ta tb tc) := by
  obtain ⟨a1, a2⟩ := ha
  obtain ⟨b1, b2⟩ := hb
  obtain ⟨c1, c2⟩ := hc
  refine ⟨pe_chain ho ho' a1 b1 c1 hm, fun δ P hT H0 H1 σ Q e env k => ?_⟩
  refine a2 δ _ hT H0 H1 σ _ e env fun v x G0 G hx s r1 => ?_
  refine b2 δ _ hx G0 G σ _ s.e2 (env.to s.e0 s.e1) fun w y I0 I hy s2 r2 => ?_
  obtain ⟨p, o1⟩ := (r1.to s2).un
  obtain ⟨q, o2⟩ := r2.un
  refine hg _ _ _ hy v w I0 I p q _ s2.e2 o1 o2 fun u d J0 J hd s3 r3 => ?_
  obtain ⟨b, rfl, hp⟩ := asB_inv hd
  refine ⟨b, res_bl r3, ?_⟩
  have s4 := (s.trans s2).trans s3
  cases b with
  | true =>
    rw [if_pos rfl]
    refine c2 δ _ hp J0 J σ _ s3.e2 (env.to s4.e0 s4.e1) fun u2 d2 L0 L hd2 s5 r5 => ?_
    obtain ⟨q3, o3⟩ := r5.un
    exact hg' _ _ _ hd2 w u2 L0 L q q3 Q s5.e2 ((o2.to s3.e0 s3.e1).to s5.e0 s5.e1) o3 (k.after (s4.trans s5))
  | false =>
    rw [if_neg Bool.false_ne_true]
    exact (k.after s4).val s3.e2 hp (.bl _)
theorem pt_chain1 {c : Expr} {tc : DE} {op op' : CmpOp} {r r' : R2} {g g' : D → D → (D → Prop) → Prop} (ho : OpR X (compareOp op) r) (ho' : OpR X (compareOp op') r') (hg : OpD X.K r g) (hg' : OpD X.K r' g') (ha : PEd X a ua ta) (hb : PEd X b ub tb) (hc : PEd X c uc tc)
    (hm : lastMarks [op, op'] [b, c] = false := by with_unfolding_all rfl) : PTd X (.Compare a [op, op'] [b, c] pos) (tTest (tChain r r' ua ub uc)) (dT (dCh g g' ta tb tc)) := by
  obtain ⟨a1, a2⟩ := ha
  obtain ⟨b1, b2⟩ := hb
  obtain ⟨c1, c2⟩ := hc
  refine ⟨pt_chain ho ho' a1 b1 c1 hm, fun δ P hT H0 H1 σ Q e env k => ?_⟩
  refine a2 δ _ hT H0 H1 σ _ e env fun v x G0 G hx s r1 => ?_
  refine b2 δ _ hx G0 G σ _ s.e2 (env.to s.e0 s.e1) fun w y I0 I hy s2 r2 => ?_
  obtain ⟨p, o1⟩ := (r1.to s2).un
  obtain ⟨q, o2⟩ := r2.un
  refine hg _ _ _ hy v w I0 I p q _ s2.e2 o1 o2 fun u d J0 J hd s3 r3 => ?_
  obtain ⟨b, rfl, hp⟩ := asB_inv hd
  refine ⟨b, res_bl r3, ?_⟩
  have s4 := (s.trans s2).trans s3
  cases b with
  | true =>
    rw [if_pos rfl]
    refine c2 δ _ hp J0 J σ _ s3.e2 (env.to s4.e0 s4.e1) fun u2 d2 L0 L hd2 s5 r5 => ?_
    obtain ⟨q3, o3⟩ := r5.un
    refine hg' _ _ _ hd2 w u2 L0 L q q3 _ s5.e2 ((o2.to s3.e0 s3.e1).to s5.e0 s5.e1) o3 fun u4 d4 M0 M hd4 s6 r6 => ?_
    obtain ⟨b4, rfl, hp4⟩ := asB_inv hd4
    exact ⟨b4, res_bl r6, k b4 M hp4 ((s4.e1.trans s5.e1).trans s6.e1)⟩
  | false =>
    rw [if_neg Bool.false_ne_true]
    exact ⟨false, rfl, k false J hp s4.e1⟩
end
end J
/-! J5: arguments, calls, built-ins, subscripts, displays, fields -/
namespace J
open PySem L2

/-! ### arguments -/
def dNil : DA := fun _ P => P []
def dCons (ta : DE) (tr : DA) : DA := fun δ P => ta δ fun x => tr δ fun xs => P (x.un :: xs)
section
variable {X : Cx} {e : Expr} {es : List Expr} {ta tb : DE} {tr : DA} {pos : Pos}
theorem pa_0 : PAd X [] tNil dNil := ⟨pa_nil, fun δ P h H0 H1 σ Q e env k => k [] [] H0 H1 h (Step.refl e) .nil⟩
theorem pa_c (ha : PEd X e ua ta) (hr : PAd X es ur tr) (hs : starEach (e :: es) X.env = (false, eval e X.env) :: starEach es X.env := by rfl) : PAd X (e :: es) (tCons ua ur) (dCons ta tr) := by
  obtain ⟨a1, a2⟩ := ha
  obtain ⟨b1, b2⟩ := hr
  refine ⟨pa_cons a1 b1 hs, fun δ P hT H0 H1 σ Q e env k => ?_⟩
  refine a2 δ _ hT H0 H1 σ _ e env fun v x G0 G hx s r => ?_
  refine b2 δ _ hx G0 G σ _ s.e2 (env.to s.e0 s.e1) fun vs ds I0 I hp s2 al => ?_
  exact k (v :: vs) (x.un :: ds) I0 I hp (s.trans s2) (.cons ((r.to s2).un) al)
/-! ### built-ins by values -/
def CallD (K : PySem.W.Frag) (r : List V → Hp → VK → Prop) (g : List D → (D → Prop) → Prop) : Prop :=
  ∀ ds P, g ds P → ∀ vs H0 H1 Q, Same H0 H1 → AL K H0 H1 vs ds → Kont K H0 H1 P Q → r vs H1 Q
def dCB (g : List D → (D → Prop) → Prop) (t : DA) : DE := fun δ P => t δ fun ds => g ds P
theorem pd_cb {e : Expr} {es : List Expr} {r : List V → Hp → VK → Prop} {g : List D → (D → Prop) → Prop} (hp : ∀ t, PA X es t → PE X e (tCB r t)) (hg : CallD X.K r g) (ha : PAd X es ur tr) : PEd X e (tCB r ur) (dCB g tr) := by
  obtain ⟨b1, b2⟩ := ha
  exact ⟨hp _ b1, fun δ P hT H0 H1 σ Q e env k => b2 δ _ hT H0 H1 σ _ e env fun vs ds G0 G hx s al => hg ds P hx vs G0 G Q s.e2 al (k.after s)⟩
/-- f(..), a built-in function; a built-in type -/
theorem pd_fn {x : Str} {p : Pos} {id : String} {r : List V → Hp → VK → Prop} {g : List D → (D → Prop) → Prop} (hc : CallR X (.builtin id) r) (hg : CallD X.K r g) (hm : X.mg x = none) (hv : bootBuiltins x = some (.builtin id)) (ha : PAd X (e :: es) ur tr) (hgl : Gl X x := by rfl) (hn : x ≠ "__name__" := by decide)
    (hdb : (x == ("__debug__" : Str)) = false := by decide) (he : starEach (e :: es) X.env = (false, eval e X.env) :: starEach es X.env := by rfl) (hpl : (backTo pos (starEach es X.env)).any (·.1) = false := by rfl) : PEd X (.Call (.Name x p) (e :: es) [] pos) (tCB r ur) (dCB g tr) :=
  pd_cb (fun t h => pe_callB hc hgl hm hv h hn hdb he hpl) hg ha
theorem pd_ty {x : Str} {p : Pos} {id : String} {r : List V → Hp → VK → Prop} {g : List D → (D → Prop) → Prop} (hc : CallR X (.type id) r) (hg : CallD X.K r g) (hm : X.mg x = none) (hv : bootBuiltins x = some (.type id)) (ha : PAd X (e :: es) ur tr) (hgl : Gl X x := by rfl) (hn : x ≠ "__name__" := by decide)
    (hdb : (x == ("__debug__" : Str)) = false := by decide) (he : starEach (e :: es) X.env = (false, eval e X.env) :: starEach es X.env := by rfl) (hpl : (backTo pos (starEach es X.env)).any (·.1) = false := by rfl) : PEd X (.Call (.Name x p) (e :: es) [] pos) (tCB r ur) (dCB g tr) :=
  pd_cb (fun t h => pe_callTy hc hgl hm hv h hn hdb he hpl) hg ha
end
section
variable {K : PySem.W.Frag} {H0 H1 : Hp}
theorem al1 {vs : List V} {x : D} (h : AL K H0 H1 vs [x]) : ∃ v p, vs = [v] ∧ Own K H0 H1 p v x := by
  cases h with
  | cons a t =>
    cases t
    obtain ⟨p, o⟩ := a
    exact ⟨_, p, rfl, o⟩
theorem al2 {vs : List V} {x y : D} (h : AL K H0 H1 vs [x, y]) : ∃ v p w q, vs = [v, w] ∧ Own K H0 H1 p v x ∧ Own K H0 H1 q w y := by
  cases h with
  | cons a t =>
    obtain ⟨p, o⟩ := a
    obtain ⟨w, q, e, o2⟩ := al1 t
    subst e
    exact ⟨_, p, w, q, rfl, o, o2⟩
end
def g1 (g : D → (D → Prop) → Prop) : List D → (D → Prop) → Prop := fun ds P => match ds with
  | [x] => g x P
  | _ => False
theorem g1_inv {g : D → (D → Prop) → Prop} {ds : List D} {P : D → Prop} (h : g1 g ds P) : ∃ x, ds = [x] ∧ g x P := by
  unfold g1 at h
  split at h
  · exact ⟨_, rfl, h⟩
  · exact h.elim
def g2 (g : D → D → (D → Prop) → Prop) : List D → (D → Prop) → Prop := fun ds P => match ds with
  | [x, y] => g x y P
  | _ => False
theorem g2_inv {g : D → D → (D → Prop) → Prop} {ds : List D} {P : D → Prop} (h : g2 g ds P) : ∃ x y, ds = [x, y] ∧ g x y P := by
  unfold g2 at h
  split at h
  · exact ⟨_, _, rfl, h⟩
  · exact h.elim
/-- how many items -/
def D.size : D → Option Nat
  | .lst ds => some ds.length
  | .olst ds => some ds.length
  | .oll dss => some dss.length
  | .scr ns => some ns.length
  | .tup ds => some ds.length
  | _ => none
def gLen : List D → (D → Prop) → Prop := g1 fun x P => match x.size with
  | some n => P (.int (n : Int))
  | none => False
def gList : List D → (D → Prop) → Prop := g1 fun x P => match x.items with
  | some ds => P (.mv (.olst ds))
  | none => False
def D.ints : D → Option (List Int)
  | .scr ns => some ns
  | .lst ds => ds.foldr (fun d r => match d, r with | .int i, some l => some (i :: l) | _, _ => none) (some [])
  | .olst ds => ds.foldr (fun d r => match d, r with | .int i, some l => some (i :: l) | _, _ => none) (some [])
  | _ => none
theorem toInts_map : ∀ {ds : List D} {ns : List Int}, ds.foldr (fun d r => match d, r with | .int i, some l => some (i :: l) | _, _ => none) (some []) = some ns → ds = ns.map D.int
  | [], ns, h => by
    have e : [] = ns := Option.some.inj h
    rw [← e] <;> rfl
  | d :: ds, ns, h => by
    rw [List.foldr_cons] at h
    split at h
    · rename_i i l e
      have e2 := toInts_map e
      have e3 : i :: l = ns := Option.some.inj h
      rw [← e3, List.map_cons, ← e2]
    · cases h
theorem ints_toInts : ∀ ns : List Int, (ns.map D.int).foldr (fun d r => match d, r with | .int i, some l => some (i :: l) | _, _ => none) (some []) = some ns
  | [] => rfl
  | n :: ns => by
    rw [List.map_cons, List.foldr_cons, ints_toInts ns] <;> rfl
theorem ints_lst (ns : List Int) : (D.lst (ns.map .int)).ints = some ns := ints_toInts ns
theorem ints_olst (ns : List Int) : (D.olst (ns.map .int)).ints = some ns := ints_toInts ns
theorem ints_scr (ns : List Int) : (D.scr ns).ints = some ns := rfl
def D.bools : D → Option (List Bool)
  | .lst ds => ds.foldr (fun d r => match d, r with | .bl i, some l => some (i :: l) | _, _ => none) (some [])
  | .olst ds => ds.foldr (fun d r => match d, r with | .bl i, some l => some (i :: l) | _, _ => none) (some [])
  | _ => none
theorem toBools_map : ∀ {ds : List D} {ns : List Bool}, ds.foldr (fun d r => match d, r with | .bl i, some l => some (i :: l) | _, _ => none) (some []) = some ns → ds = ns.map D.bl
  | [], ns, h => by
    have e : [] = ns := Option.some.inj h
    rw [← e] <;> rfl
  | d :: ds, ns, h => by
    rw [List.foldr_cons] at h
    split at h
    · rename_i i l e
      have e2 := toBools_map e
      have e3 : i :: l = ns := Option.some.inj h
      rw [← e3, List.map_cons, ← e2]
    · cases h
theorem bools_toBools : ∀ ns : List Bool, (ns.map D.bl).foldr (fun d r => match d, r with | .bl i, some l => some (i :: l) | _, _ => none) (some []) = some ns
  | [] => rfl
  | n :: ns => by
    rw [List.map_cons, List.foldr_cons, bools_toBools ns] <;> rfl
theorem bools_lst (ns : List Bool) : (D.lst (ns.map .bl)).bools = some ns := bools_toBools ns
theorem bools_olst (ns : List Bool) : (D.olst (ns.map .bl)).bools = some ns := bools_toBools ns
section
variable {K : PySem.W.Frag} {H0 H1 : Hp} {p : List Addr} {v : V}
theorem Own.ints {d : D} {ns : List Int} (h : Own K H0 H1 p v d) (e : Same H0 H1) (q : d.ints = some ns) : ∃ a, v = .ref a ∧ SqL K H1 a (ns.map V.int) := by
  have key : ∀ ds, d.items = some ds → ds = ns.map D.int → ∃ a, v = .ref a ∧ SqL K H1 a (ns.map V.int) := fun ds i e2 => by
    obtain ⟨a, vs, h1, h2, h3⟩ := h.items e i
    rw [e2] at h3
    rw [h3.ints] at h2
    exact ⟨a, h1, h2⟩
  cases d with
  | lst ds => exact key ds rfl (toInts_map q)
  | olst ds => exact key ds rfl (toInts_map q)
  | scr ms =>
    have e2 : ms = ns := Option.some.inj q
    subst e2
    exact key _ rfl rfl
  | _ => cases q
theorem Own.bools {d : D} {ns : List Bool} (h : Own K H0 H1 p v d) (e : Same H0 H1) (q : d.bools = some ns) : ∃ a, v = .ref a ∧ SqL K H1 a (ns.map V.bl) := by
  have key : ∀ ds, d.items = some ds → ds = ns.map D.bl → ∃ a, v = .ref a ∧ SqL K H1 a (ns.map V.bl) := fun ds i e2 => by
    obtain ⟨a, vs, h1, h2, h3⟩ := h.items e i
    rw [e2] at h3
    rw [h3.bools] at h2
    exact ⟨a, h1, h2⟩
  cases d with
  | lst ds => exact key ds rfl (toBools_map q)
  | olst ds => exact key ds rfl (toBools_map q)
  | _ => cases q
theorem RepLL.len : ∀ {as : List Addr} {dss : List (List D)}, RepLL K H0 H1 as dss → as.length = dss.length
  | _, _, .nil => rfl
  | _, _, .cons _ _ t => congrArg (· + 1) t.len
theorem Own.size {d : D} {n : Nat} (h : Own K H0 H1 p v d) (e : Same H0 H1) (q : d.size = some n) : ∃ a vs, v = .ref a ∧ (SqL K H1 a vs ∨ SqT K H1 a vs) ∧ vs.length = n := by
  cases d with
  | lst ds =>
    obtain ⟨a, vs, h1, h2, h3⟩ := h.items e (ds := ds) rfl
    exact ⟨a, vs, h1, .inl h2, h3.len.trans (Option.some.inj q)⟩
  | olst ds =>
    obtain ⟨a, vs, h1, h2, h3⟩ := h.items e (ds := ds) rfl
    exact ⟨a, vs, h1, .inl h2, h3.len.trans (Option.some.inj q)⟩
  | scr ns =>
    obtain ⟨a, vs, h1, h2, h3⟩ := h.items e (ds := ns.map .int) rfl
    exact ⟨a, vs, h1, .inl h2, by rw [h3.len, List.length_map]; exact Option.some.inj q⟩
  | oll dss =>
    cases h with
    | one r =>
      cases r with
      | leaf r => cases r
      | oll h1 h2 => exact ⟨_, _, rfl, .inl (.of h1), by rw [List.length_map, h2.len]; exact Option.some.inj q⟩
  | tup ds =>
    obtain ⟨a, vs, h1, h2, h3⟩ := h.tup e
    exact ⟨a, vs, h1, .inr (.of h2), h3.len.trans (Option.some.inj q)⟩
  | _ => cases q
theorem cd_len : CallD K (fun xs H Q => ∃ p ys, xs = [.ref p] ∧ (SqL K H p ys ∨ SqT K H p ys) ∧ Q (.int ys.length) H) gLen := fun ds P h vs H0 H1 Q e al k => by
  obtain ⟨x, ex, hz⟩ := g1_inv h
  subst ex
  replace h := hz
  obtain ⟨v, p, rfl, o⟩ := al1 al
  cases q : x.size with
  | none => rw [q] at h; exact h.elim
  | some n =>
    rw [q] at h
    obtain ⟨a, vs, rfl, h1, h2⟩ := o.size e q
    refine ⟨a, vs, rfl, h1, ?_⟩
    rw [h2]
    exact k.val e h (.int _)
theorem cd_list : CallD K (fun xs H Q => ∃ p ys, xs = [.ref p] ∧ (SqL K H p ys ∨ SqT K H p ys) ∧ ∀ l, H l = none → Q (.ref l) (upd H l (.lst ys))) gList := fun ds P h vs H0 H1 Q e al k => by
  obtain ⟨x, ex, hz⟩ := g1_inv h
  subst ex
  replace h := hz
  obtain ⟨v, p, rfl, o⟩ := al1 al
  cases q : x.items with
  | none => rw [q] at h; exact h.elim
  | some ds =>
    rw [q] at h
    obtain ⟨a, vs, rfl, h1, h2⟩ := o.items e q
    exact ⟨a, vs, rfl, .inl h1, k.lst e h h2⟩
def gInts (f : List Int → (D → Prop) → Prop) : List D → (D → Prop) → Prop := g1 fun x P => match x.ints with
  | some ns => f ns P
  | none => False
theorem gInts_inv {f : List Int → (D → Prop) → Prop} {ds : List D} {P : D → Prop} (h : gInts f ds P) {vs : List V} (e : Same H0 H1) (al : AL K H0 H1 vs ds) : ∃ a ns, vs = [.ref a] ∧ SqL K H1 a (ns.map V.int) ∧ f ns P := by
  obtain ⟨x, ex, hz⟩ := g1_inv h
  subst ex
  replace h := hz
  obtain ⟨v, p, rfl, o⟩ := al1 al
  cases q : x.ints with
  | none => rw [q] at h; exact h.elim
  | some ns =>
    rw [q] at h
    obtain ⟨a, rfl, h1⟩ := o.ints e q
    exact ⟨a, ns, rfl, h1, h⟩
def gSum := gInts fun ns P => P (.int ns.sum)
theorem cd_sum : CallD K (rSum K) gSum := fun ds P h vs H0 H1 Q e al k => by
  obtain ⟨a, ns, ex, h1, hz⟩ := gInts_inv h e al
  subst ex
  replace h := hz
  exact ⟨a, ns, rfl, h1, k.val e h (.int _)⟩
def gMax := gInts fun ns P => 0 < ns.length ∧ ∀ m, m ∈ ns → (∀ y, y ∈ ns → y ≤ m) → P (.int m)
theorem cd_max : CallD K (rMax K) gMax := fun ds P h vs H0 H1 Q e al k => by
  obtain ⟨a, ns, ex, h1, hz⟩ := gInts_inv h e al
  subst ex
  replace h := hz
  exact ⟨a, ns, rfl, h1, h.1, fun m a b => k.val e (h.2 m a b) (.int _)⟩
def gSorted := gInts fun ns P => ∀ ms : List Int, ms.Perm ns → ms.Pairwise (· ≤ ·) → P (.mv (.olst (ms.map .int)))
theorem cd_sorted : CallD K (rSortedI K) gSorted := fun ds P h vs H0 H1 Q e al k => by
  obtain ⟨a, ns, ex, h1, hz⟩ := gInts_inv h e al
  subst ex
  replace h := hz
  exact ⟨a, ns, rfl, h1, fun ms q hp hs hq => k.lst e (h ms hp hs) (RepL.ofInts ms) q hq⟩
def gBools (f : List Bool → Bool) : List D → (D → Prop) → Prop := g1 fun x P => match x.bools with
  | some bs => P (.bl (f bs))
  | none => False
theorem gBools_inv {f : List Bool → Bool} {ds : List D} {P : D → Prop} (h : gBools f ds P) {vs : List V} (e : Same H0 H1) (al : AL K H0 H1 vs ds) : ∃ a bs, vs = [.ref a] ∧ SqL K H1 a (bs.map V.bl) ∧ P (.bl (f bs)) := by
  obtain ⟨x, ex, hz⟩ := g1_inv h
  subst ex
  replace h := hz
  obtain ⟨v, p, rfl, o⟩ := al1 al
  cases q : x.bools with
  | none => rw [q] at h; exact h.elim
  | some ns =>
    rw [q] at h
    obtain ⟨a, rfl, h1⟩ := o.bools e q
    exact ⟨a, ns, rfl, h1, h⟩
abbrev gAll := gBools fun bs => bs.all id
abbrev gAny := gBools fun bs => bs.any id
theorem cd_all : CallD K (rAll K) gAll := fun ds P h vs H0 H1 Q e al k => by
  obtain ⟨a, ns, ex, h1, hz⟩ := gBools_inv h e al
  subst ex
  replace h := hz
  exact ⟨a, ns, rfl, h1, k.val e h (.bl _)⟩
theorem cd_any : CallD K (rAny K) gAny := fun ds P h vs H0 H1 Q e al k => by
  obtain ⟨a, ns, ex, h1, hz⟩ := gBools_inv h e al
  subst ex
  replace h := hz
  exact ⟨a, ns, rfl, h1, k.val e h (.bl _)⟩
def gI2 (f : Int → Int → Int) : List D → (D → Prop) → Prop := g2 fun x y P => match x, y with
  | .int i, .int j => P (.int (f i j))
  | _, _ => False
theorem gI2_inv {f : Int → Int → Int} {ds : List D} {P : D → Prop} (h : gI2 f ds P) : ∃ i j, ds = [.int i, .int j] ∧ P (.int (f i j)) := by
  obtain ⟨x, y, ex, hz⟩ := g2_inv h
  subst ex
  replace h := hz
  split at h
  · exact ⟨_, _, rfl, h⟩
  · exact h.elim
theorem cd_max2 : CallD K (fun xs H Q => ∃ i j, xs = [.int i, .int j] ∧ Q (.int (if j > i then j else i)) H) (gI2 fun i j => if j > i then j else i) := fun ds P h vs H0 H1 Q e al k => by
  obtain ⟨i, j, ex, hz⟩ := gI2_inv h
  subst ex
  replace h := hz
  obtain ⟨v, p, w, q, rfl, o1, o2⟩ := al2 al
  exact ⟨i, j, by rw [o1.int, o2.int], k.val e h (.int _)⟩
theorem cd_min2 : CallD K (fun xs H Q => ∃ i j, xs = [.int i, .int j] ∧ Q (.int (if j < i then j else i)) H) (gI2 fun i j => if j < i then j else i) := fun ds P h vs H0 H1 Q e al k => by
  obtain ⟨i, j, ex, hz⟩ := gI2_inv h
  subst ex
  replace h := hz
  obtain ⟨v, p, w, q, rfl, o1, o2⟩ := al2 al
  exact ⟨i, j, by rw [o1.int, o2.int], k.val e h (.int _)⟩
end

/-! ### subscripts -/
/-- xs[i] of a list, a tuple -/
def gIx : D → D → (D → Prop) → Prop := fun x y P => match x, y with
  | .tup ds, .int i => (match atI ds i with
    | some d => P d
    | none => False)
  | .oll dss, .int i => (match atI dss i with
    | some ds => P (.olst ds)
    | none => False)
  | x, .int i => (match x.items with
    | some ds => (match atI ds i with
      | some d => P d
      | none => False)
    | none => False)
  | _, _ => False
theorem atI_len {α β : Type} {xs : List α} {ys : List β} (h : xs.length = ys.length) {i : Int} {d : α} (e : atI xs i = some d) : ∃ j : Nat, xs[j]? = some d ∧ ∀ v : β, ys[j]? = some v → atI ys i = some v := by
  unfold atI at e ⊢
  rw [← h]
  cases q : ixN xs.length i with
  | none => rw [q] at e; cases e
  | some j =>
    rw [q] at e
    exact ⟨j, e, fun v hv => hv⟩
theorem RepL.atI {K : PySem.W.Frag} {H : Hp} {vs : List V} {ds : List D} {i : Int} {d : D} (h : RepL K H vs ds) (e : L2.atI ds i = some d) : ∃ v, L2.atI vs i = some v ∧ Rep K H v d := by
  obtain ⟨j, h1, h2⟩ := atI_len (ys := vs) h.len.symm e
  obtain ⟨v, h3, h4⟩ := h.at h1
  exact ⟨v, h2 v h3, h4⟩
theorem RepLL.at : ∀ {K : PySem.W.Frag} {H0 H1 : Hp} {as : List Addr} {dss : List (List D)} {j : Nat} {ds : List D}, RepLL K H0 H1 as dss → dss[j]? = some ds → ∃ a vs, as[j]? = some a ∧ H1 a = some (.lst vs) ∧ RepL K H0 vs ds
  | _, _, _, _, _, _, _, .nil, e => by simp at e
  | _, _, _, _, _, 0, _, .cons h r _, e => by
    have e2 := Option.some.inj e
    subst e2
    exact ⟨_, _, rfl, h, r⟩
  | _, _, _, _, _, j + 1, _, .cons _ _ t, e => RepLL.at (j := j) t e
section
variable {X : Cx} {a b : Expr} {ta tb : DE} {pos : Pos}
theorem od_ix {K : PySem.W.Frag} : OpD K (fun x y H Q => rIxL K x y H Q ∨ rIxT K x y H Q) gIx := fun x y P h v w H0 H1 p q Q e o1 o2 k => by
  have key : ∀ i, y = .int i → (match x.items with
    | some ds => (match atI ds i with
      | some d => P d
      | none => False)
    | none => False) → (rIxL K v w H1 Q ∨ rIxT K v w H1 Q) := fun i ey z => by
    subst ey
    cases q : x.items with
    | none => rw [q] at z; exact z.elim
    | some ds =>
      rw [q] at z
      have z : (match atI ds i with
        | some d => P d
        | none => False) := z
      cases q2 : atI ds i with
      | none => rw [q2] at z; exact z.elim
      | some d =>
        rw [q2] at z
        obtain ⟨a, vs, rfl, h1, h2⟩ := o1.items e q
        obtain ⟨v, h3, h4⟩ := h2.atI q2
        exact .inl ⟨a, vs, i, v, rfl, o2.int, h1, h3, k.val e z h4⟩
  cases y with
  | int i =>
    cases x with
    | tup ds =>
      have z : (match atI ds i with
        | some d => P d
        | none => False) := h
      cases q2 : atI ds i with
      | none => rw [q2] at z; exact z.elim
      | some d =>
        rw [q2] at z
        obtain ⟨a, vs, rfl, h1, h2⟩ := o1.tup e
        obtain ⟨v, h3, h4⟩ := h2.atI q2
        exact .inr ⟨a, vs, i, v, rfl, o2.int, .of h1, h3, k.val e z h4⟩
    | oll dss =>
      have z : (match atI dss i with
        | some ds => P (.olst ds)
        | none => False) := h
      cases q2 : atI dss i with
      | none => rw [q2] at z; exact z.elim
      | some ds =>
        rw [q2] at z
        cases o1 with
        | one r =>
          cases r with
          | leaf r => cases r
          | oll h1 h2 =>
            rename_i a as
            obtain ⟨j, h3, h4⟩ := atI_len (ys := as.map V.ref) (by rw [List.length_map]; exact h2.len.symm) q2
            obtain ⟨b, vs, h5, h6, h7⟩ := h2.at h3
            refine .inl ⟨a, _, i, .ref b, rfl, o2.int, .of h1, h4 _ (by rw [List.getElem?_map, h5] <;> rfl), ?_⟩
            exact k _ (.olst ds) H0 H1 z (Step.refl e) (Res.plain (.one (.olst h6 h7)))
    | _ => exact key i rfl h
  | _ => cases x <;> exact h.elim
theorem pd_ix (ha : PEd X a ua ta) (hb : PEd X b ub tb) (hs : PlainIx b := by exact fun _ _ => rfl) : PEd X (.Subscript a b pos) (tOp (fun x y H Q => rIxL X.K x y H Q ∨ rIxT X.K x y H Q) ua ub) (dOp gIx ta tb) :=
  pd_op (fun _ _ h1 h2 => pe_ix (IxR.or ix_list ix_tup) h1 h2 hs) od_ix ha hb
/-! ### slices -/
abbrev DO : Type := List DV → (Option Int → Prop) → Prop
structure POd (X : Cx) (e : Option Expr) (to : TO) (T : DO) : Prop where
  p : PO X e to
  s : ∀ δ P, T δ P → ∀ H0 H1 σ Q, Same H0 H1 → EnvE X.K H0 H1 δ σ → (∀ o G, P o → Same H1 G → Q o G) → to σ H1 Q
def dNo : DO := fun _ P => P none
def asI (x : D) (P : Int → Prop) : Prop := match x with
  | .int b => P b
  | _ => False
theorem asI_inv {x : D} {P : Int → Prop} (h : asI x P) : ∃ b, x = .int b ∧ P b := by
  cases x <;> first | exact h.elim | exact ⟨_, rfl, h⟩
theorem res_int {K : PySem.W.Frag} {H1 G0 G : Hp} {v : V} {b : Int} (r : Res K H1 G0 G v (.int b)) : v = .int b := by
  obtain ⟨p, o⟩ := r
  exact o.int
def dSome (ta : DE) : DO := fun δ P => ta δ fun x => asI x fun i => P (some i)
theorem po_0 : POd X none tNoPart dNo := ⟨po_none, fun δ P h H0 H1 σ Q e env k => k none H1 h (Same.refl _)⟩
theorem po_1 (ha : PEd X a ua ta) : POd X (some a) (tPart ua) (dSome ta) := by
  obtain ⟨a1, a2⟩ := ha
  refine ⟨po_some a1, fun δ P hT H0 H1 σ Q e env k => a2 δ _ hT H0 H1 σ _ e env fun v x G0 G hx s r => ?_⟩
  obtain ⟨i, rfl, hp⟩ := asI_inv hx
  exact ⟨i, res_int r, k _ G hp s.e1⟩
/-- the items from lo to hi -/
def cutD {α : Type} (xs : List α) (lo hi : Option Int) : List α := (xs.drop (HT.sIx xs.length 0 lo)).take (HT.sIx xs.length xs.length hi - HT.sIx xs.length 0 lo)
def dSl (ta : DE) (tl th : DO) : DE := fun δ P => ta δ fun x => tl δ fun lo => th δ fun hi => match x.un.items with
  | some ds => P (.mv (.olst (cutD ds lo hi)))
  | none => False
theorem RepL.cut {K : PySem.W.Frag} {H : Hp} {vs : List V} {ds : List D} (h : RepL K H vs ds) (lo hi : Option Int) : RepL K H (cutV vs lo hi) (cutD ds lo hi) := by
  unfold cutV cutD
  rw [h.len]
  exact (h.dr _).tk _
theorem pd_sl {lo hi : Option Expr} {tl th : DO} {p2 : Pos} (ha : PEd X a ua ta) (hl : POd X lo ul tl) (hh : POd X hi uh th) : PEd X (.Subscript a (.Slice lo hi none p2) pos) (tSl (rSlL X.K) ua ul uh) (dSl ta tl th) := by
  obtain ⟨a1, a2⟩ := ha
  obtain ⟨b1, b2⟩ := hl
  obtain ⟨c1, c2⟩ := hh
  refine ⟨pe_slice sl_list a1 b1 c1, fun δ P hT H0 H1 σ Q e env k => a2 δ _ hT H0 H1 σ _ e env fun v x G0 G hx s r => ?_⟩
  refine b2 δ _ hx G0 G σ _ s.e2 (env.to s.e0 s.e1) fun o1 I h1 e1 => ?_
  refine c2 δ _ h1 G0 I σ _ (s.e2.trans e1) (env.to s.e0 (s.e1.trans e1)) fun o2 L h2 e2 => ?_
  obtain ⟨p, o⟩ := r.un
  have eL : Same G0 L := s.e2.trans (e1.trans e2)
  cases q : x.un.items with
  | none => rw [q] at h2; exact h2.elim
  | some ds =>
    rw [q] at h2
    obtain ⟨a, vs, rfl, h3, h4⟩ := (o.to (Same.refl _) (e1.trans e2)).items eL q
    exact ⟨a, vs, rfl, h3, (k.after (s.grow (e1.trans e2))).lst eL h2 (h4.cut o1 o2)⟩
/-- xs[::-1] -/
def dRev (ta : DE) : DE := fun δ P => ta δ fun x => match x.un.items with
  | some ds => P (.mv (.olst ds.reverse))
  | none => False
theorem pd_rev {k : Nat} {p1 p2 p3 : Pos} (ha : PEd X a ua ta) : PEd X (.Subscript a (.Slice none none (some (.UnaryOp .USub (.Constant (.int 1) k p1) p2)) p3) pos) (tRevL X.K ua) (dRev ta) := by
  obtain ⟨a1, a2⟩ := ha
  refine ⟨pe_revL a1, fun δ P hT H0 H1 σ Q e env k => a2 δ _ hT H0 H1 σ _ e env fun v x G0 G hx s r => ?_⟩
  obtain ⟨p, o⟩ := r.un
  dsimp only at hx
  cases q : x.un.items with
  | none => rw [q] at hx; exact hx.elim
  | some ds =>
    rw [q] at hx
    obtain ⟨a, vs, rfl, h3, h4⟩ := o.items s.e2 q
    exact ⟨a, vs, rfl, h3, (k.after s).lst s.e2 hx h4.rev⟩
/-- -a -/
theorem pd_neg (ha : PEd X a ua ta) : PEd X (.UnaryOp .USub a pos) (tUn (rU fun i => .int (-i)) ua) (fun δ P => ta δ fun x => asI x fun i => P (.int (-i))) := by
  obtain ⟨a1, a2⟩ := ha
  refine ⟨pe_un un_neg a1, fun δ P hT H0 H1 σ Q e env k => a2 δ _ hT H0 H1 σ _ e env fun v x G0 G hx s r => ?_⟩
  obtain ⟨i, rfl, hp⟩ := asI_inv hx
  exact ⟨i, res_int r, (k.after s).val s.e2 hp (.int _)⟩

/-! ### displays -/
/-- plain: told by what is known -/
def D.plain : D → Bool
  | .olst _ => false
  | .oll _ => false
  | .oobj _ _ => false
  | .mv _ => false
  | _ => true
theorem Own.rep_of {K : PySem.W.Frag} {H0 H1 : Hp} {p : List Addr} {v : V} {d : D} (h : Own K H0 H1 p v d) (e : d.plain = true) : Rep K H0 v d :=
  h.rep (fun _ z => by rw [z] at e; cases e) (fun _ z => by rw [z] at e; cases e) fun _ _ z => by rw [z] at e; cases e
theorem AL.rep : ∀ {K : PySem.W.Frag} {H0 H1 : Hp} {vs : List V} {ds : List D}, AL K H0 H1 vs ds → ds.all D.plain = true → RepL K H0 vs ds
  | _, _, _, _, _, .nil, _ => .nil
  | _, _, _, _, _, .cons ⟨p, h⟩ t, e => by
    rw [List.all_cons, Bool.and_eq_true] at e
    exact .cons (h.rep_of e.1) (AL.rep t e.2)
def dLst (t : DA) : DE := fun δ P => t δ fun ds => ds.all D.plain = true ∧ ds.length ≤ 100000 ∧ P (.mv (.olst ds))
def dTup (t : DA) : DE := fun δ P => t δ fun ds => ds.all D.plain = true ∧ ds.length ≤ 100000 ∧ P (.tup ds)
variable {es : List Expr} {tr : DA}
theorem pd_lst (ha : PAd X es ur tr) : PEd X (.List es pos) (tLst ur) (dLst tr) := by
  obtain ⟨a1, a2⟩ := ha
  refine ⟨pe_lst a1, fun δ P hT H0 H1 σ Q e env k => a2 δ _ hT H0 H1 σ _ e env fun vs ds G0 G hx s al => ?_⟩
  have r := al.rep hx.1
  exact ⟨sz5 (by rw [r.len]; exact hx.2.1), (k.after s).lst s.e2 hx.2.2 r⟩
theorem pd_tup {x1} (ha : PAd X es ur tr) : PEd X (.Tuple es x1 pos) (tTup ur) (dTup tr) := by
  obtain ⟨a1, a2⟩ := ha
  refine ⟨pe_tup a1, fun δ P hT H0 H1 σ Q e env k => a2 δ _ hT H0 H1 σ _ e env fun vs ds G0 G hx s al => ?_⟩
  have r := al.rep hx.1
  exact ⟨sz5 (by rw [r.len]; exact hx.2.1), (k.after s).tup s.e2 hx.2.2 r⟩

/-! ### fields -/
structure FldOk (K : PySem.W.Frag) (C : Addr) (f : Str) : Prop where
  cls : Cls K C
  no : NoAttr K C f
def gFld (K : PySem.W.Frag) (f : Str) (x : D) (P : D → Prop) : Prop := match x with
  | .obj C gs => FldOk K C f ∧ (match gs.lookup f with
    | some d => P d
    | none => False)
  | .oobj C gs => FldOk K C f ∧ (match gs.lookup f with
    | some d => P d
    | none => False)
  | _ => False
def dFld (K : PySem.W.Frag) (f : Str) (ta : DE) : DE := fun δ P => ta δ fun x => gFld K f x.un P
theorem RepF.look {K : PySem.W.Frag} {H : Hp} {f : Str} {d : D} : ∀ {fs : List (Str × V)} {gs : List (Str × D)}, RepF K H fs gs → gs.lookup f = some d → ∃ v, fs.lookup f = some v ∧ Rep K H v d
  | _, _, .nil, e => by cases e
  | _, _, .cons (x := x) a t, e => by
    rw [List.lookup_cons] at e ⊢
    cases q : f == x with
    | true =>
      rw [q] at e
      have e2 := Option.some.inj e
      subst e2
      exact ⟨_, rfl, a⟩
    | false =>
      rw [q] at e
      exact t.look e
theorem OwnF.look {K : PySem.W.Frag} {H0 H : Hp} {f : Str} {d : D} : ∀ {p : List Addr} {fs : List (Str × V)} {gs : List (Str × D)}, OwnF K H0 H p fs gs → gs.lookup f = some d → ∃ v q, fs.lookup f = some v ∧ Own1 K H0 H q v d
  | _, _, _, .nil, e => by cases e
  | _, _, _, .cons (x := x) a t, e => by
    rw [List.lookup_cons] at e ⊢
    cases q : f == x with
    | true =>
      rw [q] at e
      have e2 := Option.some.inj e
      subst e2
      exact ⟨_, _, rfl, a⟩
    | false =>
      rw [q] at e
      exact t.look e
theorem pd_fld {f : Str} (ha : PEd X a ua ta) (hb : attributeBase a f X.env (eval a X.env) = eval a X.env := by rfl) : PEd X (.Attribute a f pos) (tFld X.K ua f) (dFld X.K f ta) := by
  obtain ⟨a1, a2⟩ := ha
  refine ⟨pe_fld a1 hb, fun δ P hT H0 H1 σ Q e env k => a2 δ _ hT H0 H1 σ _ e env fun v x G0 G hx s r => ?_⟩
  obtain ⟨p, o⟩ := r.un
  have hx : gFld X.K f x.un P := hx
  unfold gFld at hx
  split at hx
  · rename_i C gs ex
    rw [ex] at o
    obtain ⟨ok, hl⟩ := hx
    cases q : gs.lookup f with
    | none => rw [q] at hl; exact hl.elim
    | some d =>
      rw [q] at hl
      cases o.rep with
      | obj h1 h2 =>
        obtain ⟨u, h3, h4⟩ := h2.look q
        exact ⟨_, C, _, _, u, rfl, s.e2 _ _ h1, ok.cls, ok.no, h3, (k.after s).val s.e2 hl h4⟩
  · rename_i C gs ex
    rw [ex] at o
    obtain ⟨ok, hl⟩ := hx
    cases q : gs.lookup f with
    | none => rw [q] at hl; exact hl.elim
    | some d =>
      rw [q] at hl
      cases o with
      | one r => cases r with | leaf r => cases r
      | oobj h1 h2 =>
        obtain ⟨u, p2, h3, h4⟩ := h2.look q
        exact ⟨_, C, _, _, u, rfl, h1, ok.cls, ok.no, h3, k _ d G0 G hl s (Res.plain (.one h4))⟩
  · exact hx.elim
end
end J
/-! J6: statements -/
namespace J
open PySem L2

/-! ### stores -/
/-- what is stored: a plain value, or one that is handed over -/
def asgD (x : D) (P : D → Prop) : Prop := match x with
  | .mv d => P d
  | .olst _ => False
  | .oll _ => False
  | .oobj _ _ => False
  | x => P x
theorem asgD_inv {x : D} {P : D → Prop} (h : asgD x P) : (∃ d, x = .mv d ∧ P d) ∨ (x.plain = true ∧ P x) := by
  cases x <;> first | exact h.elim | exact .inl ⟨_, rfl, h⟩ | exact .inr ⟨rfl, h⟩
theorem Res.rep_of {K : PySem.W.Frag} {H1 G0 G : Hp} {v : V} {d : D} (r : Res K H1 G0 G v d) (e : d.plain = true) : Rep K G0 v d := by
  obtain ⟨p, o⟩ := r.un
  have eu : d.un = d := by cases d <;> first | rfl | cases e
  rw [eu] at o
  exact o.rep_of e
/-- the slots with what is held, all of it older than Hm -/
structure OkW (K : PySem.W.Frag) (B He H0 : Hp) (δ : List DV) (σ : L2.St) (H Hm : Hp) : Prop where
  st : Step He B H0 H
  own : ∃ f : Nat → List Addr, Holds K B H0 δ σ H f ∧ ∀ i, ∀ a ∈ f i, ∃ o, Hm a = some o
  len : δ.length = σ.length
  old : Same B Hm
section
variable {K : PySem.W.Frag} {B He H0 G0 H G Hm Hn : Hp} {δ : List DV} {σ : L2.St} {i : Nat} {v : V} {x d : D}
theorem Ok.w (h : Ok K B He H0 δ σ H) : OkW K B He H0 δ σ H H := by
  obtain ⟨f, hf⟩ := h.own
  exact ⟨h.st, ⟨f, hf, hf.there⟩, h.len, h.st.e1⟩
theorem OkW.ok (h : OkW K B He H0 δ σ H Hm) : Ok K B He H0 δ σ H := by
  obtain ⟨f, hf, _⟩ := h.own
  exact ⟨h.st, ⟨f, hf⟩, h.len⟩
theorem OkW.to (h : OkW K B He H0 δ σ H Hm) (s : Step H0 H G0 G) : OkW K B He G0 δ σ G Hm := by
  obtain ⟨f, h1, hm⟩ := h.own
  refine ⟨h.st.trans s, ⟨f, ⟨fun i d q => ?_, fun i => ⟨(h1.fresh i).1, fun a ha => ⟨?_, ((h1.fresh i).2 a ha).2⟩⟩, h1.apart, fun i a ha => ?_⟩, hm⟩, h.len, h.old⟩
  · obtain ⟨v, a, b⟩ := h1.is i d q
    exact ⟨v, a, b.to s.e0 s.e1⟩
  · cases q : G0 a with
    | none => rfl
    | some o =>
      obtain ⟨u, hu⟩ := h1.there i a ha
      have z := s.fr a o q ((h1.fresh i).2 a ha).1
      rw [hu] at z
      cases z
  · obtain ⟨u, hu⟩ := h1.there i a ha
    exact ⟨u, s.e1 a u hu⟩
/-- something held is stored; Hn: the heap in which it all stands -/
theorem OkW.putO {p : List Addr} (h : OkW K B He H0 δ σ H Hm) (o : Own K H0 H p v d) (fr : Fresh H0 Hm p) (ex : ∀ a ∈ p, ∃ o, Hn a = some o) (e : Same Hm Hn) : OkW K B He H0 (δ.set i (.tr d)) (σ.set i (some v)) H Hn := by
  obtain ⟨f, hf, hm⟩ := h.own
  have ap : ∀ j, j ≠ i → ∀ a ∈ f j, a ∉ p := fun j _ a ha hp => by
    obtain ⟨o, ho⟩ := hm j a ha
    rw [(fr.2 a hp).2] at ho
    cases ho
  have frB : Fresh H0 B p := ⟨fr.1, fun a ha => ⟨(fr.2 a ha).1, h.old.free (fr.2 a ha).2⟩⟩
  have q := h.ok.putG (i := i) hf o frB ap
  have hl := h.len
  refine ⟨q.st, ⟨setF f i p, ⟨fun j d' z => ?_, fun j => ?_, fun j k hjk a ha hb => ?_, fun j a ha => ?_⟩, fun j a ha => ?_⟩, q.len, h.old.trans e⟩
  · by_cases c : j = i
    · subst c
      have lt : j < δ.length := by
        have := (List.getElem?_eq_some_iff.mp z).1
        rwa [List.length_set] at this
      rw [List.getElem?_set_self lt] at z
      cases z
      refine ⟨v, List.getElem?_set_self (by rw [← hl]; exact lt), ?_⟩
      rw [setF_same]
      exact o
    · rw [List.getElem?_set_ne (Ne.symm c)] at z
      obtain ⟨u, a, b⟩ := hf.is j d' z
      refine ⟨u, by rw [List.getElem?_set_ne (Ne.symm c)]; exact a, ?_⟩
      rw [setF_ne c]
      exact b
  · by_cases c : j = i
    · subst c
      rw [setF_same]
      exact frB
    · rw [setF_ne c]
      exact hf.fresh j
  · by_cases c : j = i
    · subst c
      rw [setF_same] at ha
      rw [setF_ne (Ne.symm hjk)] at hb
      exact ap k (Ne.symm hjk) a hb ha
    · rw [setF_ne c] at ha
      by_cases c2 : k = i
      · subst c2
        rw [setF_same] at hb
        exact ap j c a ha hb
      · rw [setF_ne c2] at hb
        exact hf.apart j k hjk a ha hb
  · by_cases c : j = i
    · subst c
      rw [setF_same] at ha
      exact o.there a ha
    · rw [setF_ne c] at ha
      exact hf.there j a ha
  · by_cases c : j = i
    · subst c
      rw [setF_same] at ha
      exact ex a ha
    · rw [setF_ne c] at ha
      obtain ⟨o, ho⟩ := hm j a ha
      exact ⟨o, e a o ho⟩
/-- a result of an earlier moment (G0, G) is stored -/
theorem OkW.asg (h : OkW K B He H0 δ σ H Hm) (r : Res K Hm G0 G v x) (s : Step G0 G H0 H) (em : Same Hm G) {P : D → Prop} (ha : asgD x P) : ∃ d, P d ∧ OkW K B He H0 (δ.set i (.tr d)) (σ.set i (some v)) H G := by
  rcases asgD_inv ha with ⟨d, rfl, hp⟩ | ⟨hpl, hp⟩
  · obtain ⟨p, o, fr⟩ := r
    refine ⟨d, hp, h.putO (o.to s.e0 s.e1) ⟨fr.1, fun a ha => ⟨?_, (fr.2 a ha).2⟩⟩ o.there em⟩
    cases q : H0 a with
    | none => rfl
    | some w =>
      obtain ⟨u, hu⟩ := o.there a ha
      have z := s.fr a w q (fr.2 a ha).1
      rw [hu] at z
      cases z
  · exact ⟨x, hp, h.putO (p := []) (.one (.leaf ((r.rep_of hpl).to s.e0))) ⟨List.nodup_nil, fun a ha => absurd ha List.not_mem_nil⟩ (fun a ha => absurd ha List.not_mem_nil) em⟩
/-- one result is stored -/
theorem Ok.asg (h : Ok K B He H0 δ σ H) (s : Step H0 H G0 G) (r : Res K H G0 G v x) {P : D → Prop} (ha : asgD x P) : ∃ d, P d ∧ Ok K B He G0 (δ.set i (.tr d)) (σ.set i (some v)) G := by
  obtain ⟨d, hp, q⟩ := (h.w.to s).asg (i := i) r (Step.refl s.e2) s.e1 ha
  exact ⟨d, hp, q.ok⟩
end

/-! ### blocks -/
def dNx : DS := fun E δ => E.nx δ
def dSeq (t u : DS) : DS := fun E δ => t { E with nx := u E } δ
section
variable {X : Cx} {B He : Hp} {st : Stmt} {rest : List Stmt} {T U : DS} {pos : Pos} {e : Expr} {ta : DE}
theorem sd_nil : PSsd X B He [] dNx := ⟨tNext, pss_nil, fun E δ h D H0 σ H L ok => L.nx δ H0 σ H h ok (Same.refl _)⟩
theorem sd_cons (h1 : PSd X B He st T) (h2 : PSsd X B He rest U) : PSsd X B He (st :: rest) (dSeq T U) := by
  obtain ⟨t, a1, a2⟩ := h1.ex
  obtain ⟨u, b1, b2⟩ := h2.ex
  refine ⟨tSeq t u, pss_cons a1 b1, fun E δ h D H0 σ H L ok => ?_⟩
  exact a2 _ δ h _ H0 σ H ⟨fun δ' G0 σ' G hu ok' s => b2 E δ' hu D G0 σ' G (L.mono s) ok', L.rt, L.bk, L.ct⟩ ok
theorem sd_one (h1 : PSd X B He st T) : PSsd X B He [st] T := by
  obtain ⟨t, a1, a2⟩ := h1.ex
  exact ⟨t, pss_one a1, a2⟩
theorem sd_pass : PSd X B He (.Pass pos) dNx := ⟨tNext, ps_pass, fun E δ h D H0 σ H L ok => L.nx δ H0 σ H h ok (Same.refl _)⟩
theorem sd_never : PSd X B He st (fun _ _ => False) := ⟨tNever, ps_never, fun E δ h D H0 σ H L ok => h.elim⟩
/-- x = e -/
def dSet (i : Nat) (ta : DE) : DS := fun E δ => ta δ fun x => asgD x fun d => E.nx (δ.set i (.tr d))
theorem sd_set_of {i : Nat} (hp : ∀ te, PE X e te → PS X st (tAsg te (gName i))) (ha : PEd X e ua ta) : PSd X B He st (dSet i ta) := by
  obtain ⟨a1, a2⟩ := ha
  refine ⟨_, hp _ a1, fun E δ h D H0 σ H L ok => a2 δ _ h H0 H σ _ ok.st.e2 ok.env fun v x G0 G hx s r => ?_⟩
  obtain ⟨d, hd, ok'⟩ := ok.asg (i := i) s r hx
  exact L.nx _ G0 _ G hd ok' s.e0
theorem sd_set {i : Nat} {x : Str} {pos' : Pos} (nd : X.N.Nodup) (ha : PEd X e ua ta) (hi : X.N[i]? = some x := by rfl) (hx : Loc X.env.scope x := by first | exact .inl rfl | exact .inr rfl) (hs : swapsWith e (some (.Name x pos')) pos.line X.env = pure false := by rfl)
    (hf : X.fn x = true ∨ X.env.scope.names.lookup x = some .local := by first | exact .inl rfl | exact .inr rfl | assumption) : PSd X B He (.Assign [.Name x pos'] e pos) (dSet i ta) :=
  sd_set_of (fun te h => ps_set nd hi hx h hs hf) ha
/-- e alone -/
def dDrop (ta : DE) : DS := fun E δ => ta δ fun _ => E.nx δ
theorem sd_expr (ha : PEd X e ua ta) (hs : swapsWith e none pos.line X.env = pure false := by rfl) : PSd X B He (.Expr e pos) (dDrop ta) := by
  obtain ⟨a1, a2⟩ := ha
  exact ⟨_, ps_expr a1 hs, fun E δ h D H0 σ H L ok => a2 δ _ h H0 H σ _ ok.st.e2 ok.env fun v x G0 G hx s r => L.nx δ G0 σ G hx (ok.to s) s.e0⟩
/-- if -/
def dIfS (t : DT) (T U : DS) : DS := fun E δ => t δ fun b => match b with
  | true => T E δ
  | false => U E δ
theorem sd_if {c : Expr} {a b : List Stmt} {t : DT} (hc : PTd X c ut t) (h1 : PSsd X B He a T) (h2 : PSsd X B He b U) : PSd X B He (.If c a b pos) (dIfS t T U) := by
  obtain ⟨c1, c2⟩ := hc
  obtain ⟨t1, a1, a2⟩ := h1.ex
  obtain ⟨t2, b1, b2⟩ := h2.ex
  refine ⟨_, ps_if c1 a1 b1, fun E δ h D H0 σ H L ok => c2 δ _ h H0 H σ _ ok.st.e2 ok.env fun b G hb s => ?_⟩
  have ok2 := ok.to (G0 := H0) (G := G) ⟨s, Same.refl _, ok.st.e2.trans s, fun a o q n => by rw [n] at q; cases q⟩
  cases b with
  | true => rw [if_pos rfl]; exact a2 E δ hb D H0 σ G L ok2
  | false => rw [if_neg Bool.false_ne_true]; exact b2 E δ hb D H0 σ G L ok2

/-! ### return -/
def DV.fz : DV → DV
  | .no => .no
  | .tr d => .tr (frz d)
theorem listMem_join {f : Nat → List Addr} : ∀ n : Nat, ∀ a, a ∈ ((List.range n).map f).flatten ↔ ∃ i, i < n ∧ a ∈ f i := fun n a => by
  rw [List.mem_flatten]
  constructor
  · rintro ⟨l, hl, ha⟩
    obtain ⟨i, hi, rfl⟩ := List.mem_map.mp hl
    exact ⟨i, List.mem_range.mp hi, ha⟩
  · rintro ⟨i, hi, ha⟩
    exact ⟨f i, List.mem_map.mpr ⟨i, List.mem_range.mpr hi, rfl⟩, ha⟩
theorem frz_plain {K : PySem.W.Frag} {H0 H : Hp} {p : List Addr} {v : V} {d : D} (h : Own K H0 H p v d) : (frz d).plain = true := by
  cases h with
  | one r => cases r with
    | leaf r => cases r <;> rfl
    | olst _ _ => rfl
    | oll _ _ => rfl
  | oobj _ _ => rfl
/-- all that is held is kept as it is -/
theorem Ok.fz {K : PySem.W.Frag} {B He H0 H : Hp} {δ : List DV} {σ : L2.St} (h : Ok K B He H0 δ σ H) : ∃ G0, Ok K B He G0 (δ.map DV.fz) σ H ∧ Same H0 G0 := by
  obtain ⟨f, hf⟩ := h.own
  refine ⟨more H0 H ((List.range δ.length).map f).flatten, ⟨⟨h.st.e1, h.st.e0.trans (more_same h.st.e2), more_sub h.st.e2, fun a o q n => ?_⟩, ⟨fun _ => [], fun i d q => ?_, fun i => ⟨List.nodup_nil, fun a ha => absurd ha List.not_mem_nil⟩, fun i j _ a ha => absurd ha List.not_mem_nil, fun i a ha => absurd ha List.not_mem_nil⟩, by rw [List.length_map]; exact h.len⟩, more_same h.st.e2⟩
  · by_cases c : a ∈ ((List.range δ.length).map f).flatten
    · obtain ⟨i, _, hi⟩ := (listMem_join _ a).mp c
      exact ((hf.fresh i).2 a hi).2
    · rw [more_out c] at q
      exact h.st.fr a o q n
  · rw [List.getElem?_map] at q
    cases e : δ[i]? with
    | none => rw [e] at q; cases q
    | some x =>
      rw [e] at q
      cases x with
      | no => cases q
      | tr d' =>
        have e2 : frz d' = d := by
          have z : DV.tr (frz d') = DV.tr d := Option.some.inj q
          injection z
        subst e2
        obtain ⟨v, a, b⟩ := hf.is i d' e
        refine ⟨v, a, .one (.leaf (b.frz h.st.e2 (more_same h.st.e2) fun y hy o ho => ?_))⟩
        have hi : i < δ.length := (List.getElem?_eq_some_iff.mp e).1
        rw [more_in ((listMem_join _ y).mpr ⟨i, hi, hy⟩)]
        exact ho
/-- return e: what is held here is held no more -/
def dRet (ta : DE) : DS := fun E δ => ta (δ.map DV.fz) E.rt
theorem sd_ret (ha : PEd X e ua ta) : PSd X B He (.Return (some e) pos) (dRet ta) := by
  obtain ⟨a1, a2⟩ := ha
  refine ⟨_, ps_ret a1, fun E δ h D H0 σ H L ok => ?_⟩
  obtain ⟨G0, ok2, _⟩ := ok.fz
  exact a2 _ _ h G0 H σ _ ok2.st.e2 ok2.env fun v x I0 I hx s r => L.rt x v I0 I hx (ok2.st.trans s) (r.back ok2.st.e1)
theorem sd_retN : PSd X B He (.Return none pos) (fun E _ => E.rt .non) := ⟨_, ps_retN, fun E δ h D H0 σ H L ok => L.rt .non .non H0 H h ok.st (Res.rep .non)⟩
/-- return x, what x holds handed over -/
def dRetM (i : Nat) : DS := fun E δ => match δ[i]? with
  | some (.tr d) => E.rt (.mv d)
  | _ => False
theorem sd_retM {i : Nat} (h : PE X e (tVar i)) : PSd X B He (.Return (some e) pos) (dRetM i) := by
  refine ⟨_, ps_ret h, fun E δ h D H0 σ H L ok => ?_⟩
  unfold dRetM at h
  obtain ⟨f, hf⟩ := ok.own
  split at h
  · rename_i d e
    obtain ⟨v, a, b⟩ := hf.is i d e
    exact ⟨v, a, L.rt (.mv d) v H0 H h ok.st ⟨_, b, hf.fresh i⟩⟩
  · exact h.elim

/-! ### changes of what is held -/
theorem same_out {H : Hp} {a : Addr} {o : HO} {p : List Addr} {H' : Hp} (e : ∀ b, b ≠ a → H b = H' b) (h : a ∉ p) : KeepO p H H' := fun b hb o ho => by
  rw [← e b (fun z => h (by rw [← z]; exact hb))]
  exact ho
/-- the object at a, held in slot i, is written -/
theorem Holds.write {K : PySem.W.Frag} {B He H0 H : Hp} {δ : List DV} {σ : L2.St} {f : Nat → List Addr} {i : Nat} {a : Addr} {o : HO} {d : D} {v : V} (h : Ok K B He H0 δ σ H) (hf : Holds K B H0 δ σ H f) (ha : a ∈ f i) (hv : σ[i]? = some (some v)) (hi : i < δ.length)
    (r : Own K H0 (upd H a o) (f i) v d) : Ok K B He H0 (δ.set i (.tr d)) σ (upd H a o) := by
  have fr := (hf.fresh i).2 a ha
  have hk : ∀ j, j ≠ i → KeepO (f j) H (upd H a o) := fun j c b hb u hu => by
    rw [upd_ne fun z => hf.apart j i c b hb (by rw [z]; exact ha)]
    exact hu
  refine ⟨⟨fun b u hu => ?_, h.st.e0, fun b u hu => ?_, h.st.fr⟩, ⟨f, fun j d' q => ?_, hf.fresh, hf.apart, fun j b hb => ?_⟩, by rw [List.length_set]; exact h.len⟩
  · rw [upd_ne fun z => by rw [z, fr.2] at hu; cases hu]
    exact h.st.e1 b u hu
  · rw [upd_ne fun z => by rw [z, fr.1] at hu; cases hu]
    exact h.st.e2 b u hu
  · by_cases c : j = i
    · subst c
      rw [List.getElem?_set_self hi] at q
      cases q
      exact ⟨v, hv, r⟩
    · rw [List.getElem?_set_ne (Ne.symm c)] at q
      obtain ⟨u, x, y⟩ := hf.is j d' q
      exact ⟨u, x, y.mono (Same.refl _) (hk j c)⟩
  · by_cases c : b = a
    · rw [c]
      exact ⟨o, upd_same⟩
    · rw [upd_ne c]
      exact hf.there j b hb
theorem tyL {K : PySem.W.Frag} {H : Hp} {a : Addr} {vs : List V} (h : H a = some (.lst vs)) : tyV K "list" (.ref a) H := .inl ⟨rfl, _, .of h⟩
theorem sz6 {n : Nat} (h : n ≤ 100000) : n < sizeLine := Nat.lt_of_le_of_lt h (by decide)
theorem Own.olst {K : PySem.W.Frag} {H0 H1 : Hp} {p : List Addr} {v : V} {ds : List D} (h : Own K H0 H1 p v (.olst ds)) : ∃ a vs, p = [a] ∧ v = .ref a ∧ H1 a = some (.lst vs) ∧ RepL K H0 vs ds := by
  cases h with
  | one r =>
    cases r with
    | leaf r => cases r
    | olst h1 h2 => exact ⟨_, _, rfl, rfl, h1, h2⟩
/-- e.append(a), e the i-th slot -/
def dApp (i : Nat) (ta : DE) : DS := fun E δ => match δ[i]? with
  | some (.tr (.olst ds)) => ds.length ≤ 100000 ∧ ta δ fun x => x.plain = true ∧ E.nx (δ.set i (.tr (.olst (ds ++ [x]))))
  | _ => False
theorem dApp_inv {i : Nat} {ta : DE} {E : EndsD} {δ : List DV} (h : dApp i ta E δ) : ∃ ds, δ[i]? = some (.tr (.olst ds)) ∧ ds.length ≤ 100000 ∧ ta δ fun x => x.plain = true ∧ E.nx (δ.set i (.tr (.olst (ds ++ [x])))) := by
  unfold dApp at h
  split at h
  · rename_i ds q
    exact ⟨ds, q, h.1, h.2⟩
  · exact h.elim
theorem lt_of_get {α : Type} {l : List α} {i : Nat} {x : α} (h : l[i]? = some x) : i < l.length := (List.getElem?_eq_some_iff.mp h).1
theorem sd_app {i : Nat} {o a : Expr} {apos cpos : Pos} (ho : PE X o (tVar i)) (ha : PEd X a ua ta) (hbase : attributeBase o "append" X.env (eval o X.env) = eval o X.env := by rfl)
    (hfew : ((backTo cpos (starEach (a :: []) X.env)).all (fun x => !x.1) && (backToKw cpos (keywordEach [] X.env)).all (fun x => x.1.isSome)
      && decide ((a :: []).length + ([] : List Keyword).length + (if ([] : List Keyword).isEmpty then 0 else 1) < 30)) = true := by rfl)
    (hline : (apos.endLine == cpos.line) = true := by rfl) (hs : starEach (a :: []) X.env = (false, eval a X.env) :: starEach [] X.env := by rfl) (hplain : (backTo cpos (starEach [] X.env)).any (·.1) = false := by rfl)
    (hsw : swapsWith (.Call (.Attribute o "append" apos) [a] [] cpos) none pos.line X.env = pure false := by rfl) : PSd X B He (.Expr (.Call (.Attribute o "append" apos) [a] [] cpos) pos) (dApp i ta) := by
  obtain ⟨a1, a2⟩ := ha
  refine ⟨_, ps_expr (pe_bm PySem.F.plainAttrs_list PySem.F.slot_list_append PySem.F.type_list_append mt_append ho (pa_cons a1 pa_nil hs) hbase hfew hline hs hplain) hsw, fun E δ h D H0 σ H L ok => ?_⟩
  obtain ⟨ds, hq, hz, hT⟩ := dApp_inv h
  obtain ⟨f, hf⟩ := ok.own
  obtain ⟨v, hv, o1⟩ := hf.is i _ hq
  obtain ⟨l, vs, ef, rfl, hl, hr⟩ := o1.olst
  refine ⟨.ref l, hv, tyL hl, a2 δ _ hT H0 H σ _ ok.st.e2 ok.env fun w x G0 G hx s r => ?_⟩
  have ok2 := ok.to s
  obtain ⟨f2, hf2⟩ := ok2.own
  obtain ⟨v2, hv2, o2⟩ := hf2.is i _ hq
  rw [hv] at hv2
  have ev : V.ref l = v2 := Option.some.inj (Option.some.inj hv2)
  subst ev
  obtain ⟨l2, ws, ef2, el, hl2, hr2⟩ := o2.olst
  have e3 : l = l2 := V.ref.inj el
  subst e3
  refine ⟨l, ws, w, rfl, rfl, hl2, sz6 (by rw [hr2.len]; exact hz), L.nx _ G0 _ _ hx.2 ?_ s.e0⟩
  refine Holds.write ok2 hf2 (by rw [ef2]; exact List.mem_cons_self) hv (lt_of_get hq) ?_
  rw [ef2]
  exact .one (.olst upd_same (hr2.app (.cons (r.rep_of hx.1) .nil)))
/-- e.extend(a): a a list that the program made -/
def dExt (i : Nat) (ta : DE) : DS := fun E δ => match δ[i]? with
  | some (.tr (.olst ds)) => ta δ fun x => match x.un.list with
    | some es => ds.length + es.length ≤ 100000 ∧ E.nx (δ.set i (.tr (.olst (ds ++ es))))
    | none => False
  | _ => False
theorem dExt_inv {i : Nat} {ta : DE} {E : EndsD} {δ : List DV} (h : dExt i ta E δ) : ∃ ds, δ[i]? = some (.tr (.olst ds)) ∧ ta δ fun x => match x.un.list with
    | some es => ds.length + es.length ≤ 100000 ∧ E.nx (δ.set i (.tr (.olst (ds ++ es))))
    | none => False := by
  unfold dExt at h
  split at h
  · rename_i ds q
    exact ⟨ds, q, h⟩
  · exact h.elim
theorem sd_ext {i : Nat} {o a : Expr} {apos cpos : Pos} (ho : PE X o (tVar i)) (ha : PEd X a ua ta) (hbase : attributeBase o "extend" X.env (eval o X.env) = eval o X.env := by rfl)
    (hfew : ((backTo cpos (starEach (a :: []) X.env)).all (fun x => !x.1) && (backToKw cpos (keywordEach [] X.env)).all (fun x => x.1.isSome)
      && decide ((a :: []).length + ([] : List Keyword).length + (if ([] : List Keyword).isEmpty then 0 else 1) < 30)) = true := by rfl)
    (hline : (apos.endLine == cpos.line) = true := by rfl) (hs : starEach (a :: []) X.env = (false, eval a X.env) :: starEach [] X.env := by rfl) (hplain : (backTo cpos (starEach [] X.env)).any (·.1) = false := by rfl)
    (hsw : swapsWith (.Call (.Attribute o "extend" apos) [a] [] cpos) none pos.line X.env = pure false := by rfl) : PSd X B He (.Expr (.Call (.Attribute o "extend" apos) [a] [] cpos) pos) (dExt i ta) := by
  obtain ⟨a1, a2⟩ := ha
  refine ⟨_, ps_expr (pe_bm PySem.F.plainAttrs_list PySem.F.slot_list_extend PySem.F.type_list_extend mt_extend ho (pa_cons a1 pa_nil hs) hbase hfew hline hs hplain) hsw, fun E δ h D H0 σ H L ok => ?_⟩
  obtain ⟨ds, hq, hT⟩ := dExt_inv h
  obtain ⟨f, hf⟩ := ok.own
  obtain ⟨v, hv, o1⟩ := hf.is i _ hq
  obtain ⟨l, vs, ef, rfl, hl, hr⟩ := o1.olst
  refine ⟨.ref l, hv, tyL hl, a2 δ _ hT H0 H σ _ ok.st.e2 ok.env fun w x G0 G hx s r => ?_⟩
  have ok2 := ok.to s
  obtain ⟨f2, hf2⟩ := ok2.own
  obtain ⟨v2, hv2, o2⟩ := hf2.is i _ hq
  rw [hv] at hv2
  have ev : V.ref l = v2 := Option.some.inj (Option.some.inj hv2)
  subst ev
  obtain ⟨l2, ws, ef2, el, hl2, hr2⟩ := o2.olst
  have e3 : l = l2 := V.ref.inj el
  subst e3
  obtain ⟨q, ox⟩ := r.un
  dsimp only at hx
  cases eq : x.un.list with
  | none => rw [eq] at hx; exact hx.elim
  | some es =>
    rw [eq] at hx
    obtain ⟨b, us, rfl, hb, hrb⟩ := ox.list s.e2 eq
    refine ⟨l, b, ws, us, rfl, rfl, hl2, hb, sz5 (by rw [hr2.len, hrb.len]; exact hx.1), L.nx _ G0 _ _ hx.2 ?_ s.e0⟩
    refine Holds.write ok2 hf2 (by rw [ef2]; exact List.mem_cons_self) hv (lt_of_get hq) ?_
    rw [ef2]
    exact .one (.olst upd_same (hr2.app hrb))
end
end J
/-! J7: loops, stores of several, calls, comprehensions, a def -/
namespace J
open PySem L2

/-! ### what is walked -/
structure WalkD (K : PySem.W.Frag) (G0 : Hp) (J : It) (ds : List D) : Prop where
  go : ∀ i H, Same G0 H → i < ds.length → J.go i H
  stop : ∀ H, Same G0 H → J.stop ds.length H
  yld : ∀ i H x H' d, Same G0 H → J.yld i H x H' → ds[i]? = some d → ∀ I0, Same G0 I0 → Same I0 H → ∃ I1, Step I0 H I1 H' ∧ Rep K I1 x d
abbrev DI : Type := List DV → (List D → Prop) → Prop
def SndI (K : PySem.W.Frag) (wi : TI) (T : DI) : Prop := ∀ δ P, T δ P → ∀ H0 H1 σ (R : It → Hp → Prop), Same H0 H1 → EnvE K H0 H1 δ σ → (∀ J ds G0 G, P ds → Step H0 H1 G0 G → WalkD K G0 J ds → R J G) → wi σ H1 R
structure PId (X : Cx) (tg it : Expr) (wi : TI) (T : DI) : Prop where
  p : PI X tg it wi
  s : SndI X.K wi T
section
variable {K : PySem.W.Frag} {G0 : Hp}
theorem walk_l {a : Addr} {vs : List V} {ds : List D} (h : SqL K G0 a vs) (r : RepL K G0 vs ds) : WalkD K G0 (Itl K a) ds where
  go := fun i H e hi => by
    obtain ⟨v, hv, _⟩ := r.at (List.getElem?_eq_getElem hi)
    exact ⟨vs, v, e.seq h, hv⟩
  stop := fun H e => ⟨vs, e.seq h, by rw [r.len]; exact Nat.le_refl _⟩
  yld := fun i H x H' d e y hd I0 e0 e1 => by
    obtain ⟨eH, y⟩ := y
    subst eH
    obtain ⟨v, hv, rv⟩ := r.at hd
    have ev : v = x := Option.some.inj (hv.symm.trans (y vs (e.seq h)))
    subst ev
    exact ⟨I0, Step.refl e1, rv.to e0⟩
theorem walk_r {lo : Int} {n : Nat} : WalkD K G0 (Itr lo n) ((List.range n).map fun (i : Nat) => D.int (lo + (i : Int))) where
  go := fun i H e hi => by
    rw [List.length_map, List.length_range] at hi
    exact hi
  stop := fun H e => by
    rw [List.length_map, List.length_range]
    exact Nat.le_refl _
  yld := fun i H x H' d e y hd I0 e0 e1 => by
    obtain ⟨eH, ex⟩ := y
    subst eH
    subst ex
    have ed : d = .int (lo + (i : Int)) := by
      have lt : i < n := by
        have := lt_of_get hd
        rwa [List.length_map, List.length_range] at this
      rw [List.getElem?_map, List.getElem?_range lt] at hd
      exact (Option.some.inj hd).symm
    subst ed
    exact ⟨I0, Step.refl e1, .int _⟩
theorem walk_c {lo c : Int} {n : Nat} : WalkD K G0 (Itc lo c n) ((List.range n).map fun (i : Nat) => D.int (lo + (i : Int) * c)) where
  go := fun i H e hi => by
    rw [List.length_map, List.length_range] at hi
    exact hi
  stop := fun H e => by
    rw [List.length_map, List.length_range]
    exact Nat.le_refl _
  yld := fun i H x H' d e y hd I0 e0 e1 => by
    obtain ⟨eH, ex⟩ := y
    subst eH
    subst ex
    have ed : d = .int (lo + (i : Int) * c) := by
      have lt : i < n := by
        have := lt_of_get hd
        rwa [List.length_map, List.length_range] at this
      rw [List.getElem?_map, List.getElem?_range lt] at hd
      exact (Option.some.inj hd).symm
    subst ed
    exact ⟨I0, Step.refl e1, .int _⟩
def enumD (ds : List D) : List D := ds.zipIdx.map fun p => D.tup [.int (p.2 : Int), p.1]
theorem walk_e {a : Addr} {vs : List V} {ds : List D} (h : SqL K G0 a vs) (r : RepL K G0 vs ds) : WalkD K G0 (Ite K a) (enumD ds) where
  go := fun i H e hi => by
    unfold enumD at hi
    rw [List.length_map, List.length_zipIdx] at hi
    obtain ⟨v, hv, _⟩ := r.at (List.getElem?_eq_getElem hi)
    exact ⟨vs, v, e.seq h, hv⟩
  stop := fun H e => ⟨vs, e.seq h, by unfold enumD; rw [List.length_map, List.length_zipIdx, r.len]; exact Nat.le_refl _⟩
  yld := fun i H x H' d e y hd I0 e0 e1 => by
    obtain ⟨T, w, ex, nT, eH, y⟩ := y
    subst ex
    subst eH
    unfold enumD at hd
    rw [List.getElem?_map, List.getElem?_zipIdx] at hd
    cases q : ds[i]? with
    | none => rw [q] at hd; cases hd
    | some d' =>
      rw [q] at hd
      have ed : d = .tup [.int (i : Int), d'] := by
        have z := (Option.some.inj hd).symm
        rw [z]
        simp
      subst ed
      obtain ⟨v, hv, rv⟩ := r.at q
      have ev : v = w := Option.some.inj (hv.symm.trans (y vs (e.seq h)))
      subst ev
      refine ⟨upd I0 T (.tup [.int (i : Int), v]), Step.new e1 nT, .tup upd_same (.cons (.int _) (.cons ((rv.to e0).to (same_new (e1.free nT))) .nil))⟩
end
/-- the items of what doesn't change -/
def D.pit : D → Option (List D)
  | .lst ds => some ds
  | .scr ns => some (ns.map .int)
  | _ => none
theorem Own.pit {K : PySem.W.Frag} {H0 H1 : Hp} {p : List Addr} {v : V} {d : D} {ds : List D} (h : Own K H0 H1 p v d) (q : d.pit = some ds) : ∃ a vs, v = .ref a ∧ SqL K H0 a vs ∧ RepL K H0 vs ds := by
  cases d with
  | lst es =>
    cases q
    cases h.rep with
    | lst h1 h2 => exact ⟨_, _, rfl, .of h1, h2⟩
  | scr ns =>
    cases q
    cases h.rep with
    | scr h1 => exact ⟨_, _, rfl, h1, RepL.ofInts ns⟩
  | _ => cases q
def dIl (ta : DE) : DI := fun δ P => ta δ fun x => match x.un.pit with
  | some ds => P ds
  | none => False
section
variable {X : Cx} {tg e a b : Expr} {es : List Expr} {ta tb : DE} {ua ub : TE} {ur : TA} {tr : DA} {pos : Pos}
theorem pi_l (ha : PEd X e ua ta) : PId X tg e (iList X.K ua) (dIl ta) := by
  obtain ⟨a1, a2⟩ := ha
  refine ⟨pi_list a1, fun δ P hT H0 H1 σ R e env k => a2 δ _ hT H0 H1 σ _ e env fun v x G0 G hx s r => ?_⟩
  obtain ⟨p, o⟩ := r.un
  dsimp only at hx
  cases q : x.un.pit with
  | none => rw [q] at hx; exact hx.elim
  | some ds =>
    rw [q] at hx
    obtain ⟨a, vs, rfl, h1, h2⟩ := o.pit q
    exact ⟨a, rfl, ⟨vs, s.e2.seq h1⟩, k _ ds G0 G hx s (walk_l h1 h2)⟩
def rng (lo : Int) (n : Nat) : List D := (List.range n).map fun (i : Nat) => D.int (lo + (i : Int))
def dIr1 (ta : DA) : DI := fun δ P => ta δ fun ds => match ds with
  | [.int n] => n ≤ 1000000 ∧ -1000000 ≤ n ∧ P (rng 0 n.toNat)
  | _ => False
def dIr2 (ta : DA) : DI := fun δ P => ta δ fun ds => match ds with
  | [.int m, .int n] => (n ≤ 1000000 ∧ -1000000 ≤ n) ∧ (m ≤ 1000000 ∧ -1000000 ≤ m) ∧ P (rng m (n - m).toNat)
  | _ => False
theorem pi_r1 {p : Pos} (hm : X.mg "range" = none) (ha : PAd X [a] ur tr) (hg : Gl X "range" := by rfl) (hs : starEach [a] X.env = [(false, eval a X.env)] := by rfl) : PId X tg (.Call (.Name "range" p) [a] [] pos) (iRng1 ur) (dIr1 tr) := by
  obtain ⟨a1, a2⟩ := ha
  refine ⟨pi_range1 hg hm a1 hs, fun δ P hT H0 H1 σ R e env k => a2 δ _ hT H0 H1 σ _ e env fun vs ds G0 G hx s al => ?_⟩
  dsimp only at hx
  split at hx
  · obtain ⟨v, p, rfl, o⟩ := al1 al
    exact ⟨_, by rw [o.int], by omega, by omega, k _ _ G0 G hx.2.2 s walk_r⟩
  · exact hx.elim
theorem pi_r2 {p : Pos} (hm : X.mg "range" = none) (ha : PAd X [a, b] ur tr) (hg : Gl X "range" := by rfl) (hs : starEach [a, b] X.env = [(false, eval a X.env), (false, eval b X.env)] := by rfl) (hs2 : starEach [b] X.env = [(false, eval b X.env)] := by rfl) : PId X tg (.Call (.Name "range" p) [a, b] [] pos) (iRng2 ur) (dIr2 tr) := by
  obtain ⟨a1, a2⟩ := ha
  refine ⟨pi_range2 hg hm a1 hs hs2, fun δ P hT H0 H1 σ R e env k => a2 δ _ hT H0 H1 σ _ e env fun vs ds G0 G hx s al => ?_⟩
  dsimp only at hx
  split at hx
  · obtain ⟨v, p, w, q, rfl, o1, o2⟩ := al2 al
    exact ⟨_, _, by rw [o1.int, o2.int], by omega, k _ _ G0 G hx.2.2 s walk_r⟩
  · exact hx.elim
def dIe (ta : DA) : DI := fun δ P => ta δ fun ds => match ds with
  | [x] => (match x.pit with
    | some ds => P (enumD ds)
    | none => False)
  | _ => False
theorem pi_e {p tpos : Pos} {elts : List Expr} {kk : Nat} (hm : X.mg "enumerate" = none) (ha : PAd X [a] ur tr) (hg : Gl X "enumerate" := by rfl) (hs : starEach [a] X.env = [(false, eval a X.env)] := by rfl) : PId X (.Tuple elts kk tpos) (.Call (.Name "enumerate" p) [a] [] pos) (iEnum X.K ur) (dIe tr) := by
  obtain ⟨a1, a2⟩ := ha
  refine ⟨pi_enum hg hm a1 hs, fun δ P hT H0 H1 σ R e env k => a2 δ _ hT H0 H1 σ _ e env fun vs ds G0 G hx s al => ?_⟩
  dsimp only at hx
  split at hx
  · rename_i x
    obtain ⟨v, p, rfl, o⟩ := al1 al
    cases q : x.pit with
    | none => rw [q] at hx; exact hx.elim
    | some ds =>
      rw [q] at hx
      obtain ⟨a, vs, rfl, h1, h2⟩ := o.pit q
      exact ⟨a, vs, rfl, s.e2.seq h1, k _ _ G0 G hx s (walk_e h1 h2)⟩
  · exact hx.elim
/-- reversed(range(n)), reversed(range(m, n)) -/
def dIv1 (ta : DE) : DI := fun δ P => ta δ fun x => asI x fun n => n ≤ 1000000 ∧ -1000000 ≤ n ∧ P ((List.range n.toNat).map fun (i : Nat) => D.int (((n.toNat : Nat) : Int) - 1 + (i : Int) * (-1)))
theorem pi_v1 {p p2 pos2 : Pos} (hm : X.mg "reversed" = none) (hm2 : X.mg "range" = none) (ha : PEd X a ua ta) (hg : Gl X "reversed" := by rfl) (hg2 : Gl X "range" := by rfl) (na : starEach [a] X.env = (false, eval a X.env) :: starEach [] X.env := by rfl)
    (hs : starEach [.Call (.Name "range" p2) [a] [] pos2] X.env = (false, eval (.Call (.Name "range" p2) [a] [] pos2) X.env) :: starEach [] X.env := by rfl) :
    PId X tg (.Call (.Name "reversed" p) [.Call (.Name "range" p2) [a] [] pos2] [] pos) (iRevR (tRg1 ua)) (dIv1 ta) := by
  obtain ⟨a1, a2⟩ := ha
  refine ⟨pi_revR hg hm (prg_1 hg2 hm2 a1 na) hs, fun δ P hT H0 H1 σ R e env k => a2 δ _ hT H0 H1 σ _ e env fun v x G0 G hx s r => ?_⟩
  obtain ⟨n, rfl, hp⟩ := asI_inv hx
  refine ⟨n, res_int r, by omega, by omega, by omega, by omega, k _ _ G0 G hp.2.2 s ?_⟩
  have e1 : (0 : Int) + (((n - 0).toNat : Nat) : Int) - 1 = ((n.toNat : Nat) : Int) - 1 := by rw [Int.sub_zero, Int.zero_add]
  have e2 : (n - 0).toNat = n.toNat := by rw [Int.sub_zero]
  rw [e1, e2]
  exact walk_c
end

/-! ### targets -/
abbrev DG : Type := D → List DV → (List DV → Prop) → Prop
structure PGd (X : Cx) (B He : Hp) (tg : Expr) (t : DG) : Prop where
  ex : ∃ g, PG X tg g ∧ ∀ d δ P, t d δ P → ∀ H0 σ H v, Ok X.K B He H0 δ σ H → Rep X.K H0 v d → ∀ Q : L2.St → Hp → Prop, (∀ δ' σ', P δ' → Ok X.K B He H0 δ' σ' H → Q σ' H) → g v σ H Q
def dgN (i : Nat) : DG := fun d δ P => P (δ.set i (.tr d))
def putAll : List Nat → List D → List DV → (List DV → Prop) → Prop
  | [], [], δ, P => P δ
  | i :: is, d :: ds, δ, P => putAll is ds (δ.set i (.tr d)) P
  | _, _, _, _ => False
def gNs : List Nat → TGs
  | [] => gNil
  | i :: is => gCons (gName i) (gNs is)
def dgT (is : List Nat) : DG := fun d δ P => match d with
  | .tup ds => putAll is ds δ P
  | _ => False
theorem putAll_len : ∀ {is : List Nat} {ds : List D} {δ : List DV} {P : List DV → Prop}, putAll is ds δ P → is.length = ds.length
  | [], [], _, _, _ => rfl
  | _ :: is, _ :: ds, δ, P, h => congrArg (· + 1) (putAll_len (is := is) (ds := ds) h)
  | [], _ :: _, _, _, h => h.elim
  | _ :: _, [], _, _, h => h.elim
section
variable {X : Cx} {B He : Hp} {pos : Pos}
theorem gNs_run {K : PySem.W.Frag} : ∀ {is : List Nat} {ds : List D} {vs : List V} {δ : List DV} {P : List DV → Prop}, putAll is ds δ P → ∀ H0 σ H, Ok K B He H0 δ σ H → RepL K H0 vs ds → ∀ Q : L2.St → Hp → Prop, (∀ δ' σ', P δ' → Ok K B He H0 δ' σ' H → Q σ' H) → gNs is vs σ H Q
  | [], [], _, δ, P, h, H0, σ, H, ok, r, Q, k => by
    cases r
    exact ⟨rfl, k δ σ h ok⟩
  | i :: is, d :: ds, _, δ, P, h, H0, σ, H, ok, r, Q, k => by
    cases r with
    | cons a t => exact ⟨_, _, rfl, gNs_run (is := is) (ds := ds) h H0 _ H (ok.put a) t Q k⟩
  | [], _ :: _, _, _, _, h, _, _, _, _, _, _, _ => h.elim
  | _ :: _, [], _, _, _, h, _, _, _, _, _, _, _ => h.elim
theorem pg_n {i : Nat} {x : Str} (nd : X.N.Nodup) (hi : X.N[i]? = some x := by rfl) (hx : Loc X.env.scope x := by first | exact .inl rfl | exact .inr rfl) (hf : X.fn x = true ∨ X.env.scope.names.lookup x = some .local := by first | exact .inl rfl | exact .inr rfl | assumption) :
    PGd X B He (.Name x pos) (dgN i) := ⟨_, pg_name nd hi hx hf, fun d δ P h H0 σ H v ok r Q k => k _ _ h (ok.put r)⟩
theorem pg_t {tg : Expr} {is : List Nat} (h : PG X tg (gTup X.K is.length (gNs is))) : PGd X B He tg (dgT is) := by
  refine ⟨_, h, fun d δ P h H0 σ H v ok r Q k => ?_⟩
  unfold dgT at h
  split at h
  · cases r with
    | tup h1 h2 =>
      refine ⟨_, _, rfl, .of (ok.st.e2 _ _ h1), ?_, gNs_run h H0 σ H ok h2 Q k⟩
      rw [h2.len]
      exact (putAll_len h).symm
  · exact h.elim
/-- a, b = e, e a tuple -/
def dSetT (is : List Nat) (ta : DE) : DS := fun E δ => ta δ fun x => dgT is x δ E.nx
theorem sd_setT {e : Expr} {es : List Expr} {kk : Nat} {is : List Nat} {ta : DE} {ua : TE} {p1 : Pos} (h : PG X (.Tuple es kk p1) (gTup X.K is.length (gNs is))) (ha : PEd X e ua ta)
    (hs : swapsWithSole [.Tuple es kk p1] e pos.line X.env = pure false := by rfl) (hw : swappedStores [.Tuple es kk p1] e X.env = pure none := by rfl) : PSd X B He (.Assign [.Tuple es kk p1] e pos) (dSetT is ta) := by
  obtain ⟨a1, a2⟩ := ha
  obtain ⟨g, g1, g2⟩ := (pg_t (B := B) (He := He) h).ex
  refine ⟨_, ps_asg a1 g1 hs hw, fun E δ hT D H0 σ H L ok => a2 δ _ hT H0 H σ _ ok.st.e2 ok.env fun v x G0 G hx s r => ?_⟩
  have hp : x.plain = true := by
    cases x <;> first | rfl | exact (show False from hx).elim
  exact g2 x δ _ hx G0 σ G v (ok.to s) (r.rep_of hp) _ fun δ' σ' h ok' => L.nx δ' G0 σ' G h ok' s.e0

/-! ### for -/
def forGo (t : DG) (T : DS) (E : EndsD) : List D → List DV → Prop
  | [], δ => E.nx δ
  | d :: ds, δ => t d δ fun δ' => T { nx := forGo t T E ds, rt := E.rt, bk := E.nx, ct := forGo t T E ds } δ'
def dFor (Ti : DI) (t : DG) (T : DS) : DS := fun E δ => Ti δ fun ds => forGo t T E ds δ
theorem sd_for {tg it : Expr} {body : List Stmt} {Ti : DI} {t : DG} {T : DS} (hc : X.calm = true) (hi : PId X tg it wi Ti) (hg : PGd X B He tg t) (hb : PSsd X B He body T) (hp : PassesOwn (model X.prog X.w) X.A X.env X.xe := by exact PassesOwn.never)
    (hs : ∀ x, foldedSetIterable it X.env x = pure x := by intro _; rfl) : PSd X B He (.For tg it body [] pos) (dFor Ti t T) := by
  obtain ⟨i1, i2⟩ := hi
  obtain ⟨g, g1, g2⟩ := hg.ex
  obtain ⟨tb, b1, b2⟩ := hb.ex
  refine ⟨_, ps_for hp hc i1 g1 b1 hs, fun E δ h D H0 σ H L ok => i2 δ _ h H0 H σ _ ok.st.e2 ok.env fun J ds G0 G hgo s wk => ?_⟩
  refine ⟨fun i m σ' H' => m = ds.length - i ∧ i ≤ ds.length ∧ ∃ I0 δ', Same G0 I0 ∧ Ok X.K B He I0 δ' σ' H' ∧ forGo t T E (ds.drop i) δ', ⟨_, rfl, Nat.zero_le _, G0, δ, Same.refl _, ok.to s, hgo⟩, ?_⟩
  rintro i m σ' H' ⟨rfl, hi, I0, δ', e0, ok', go⟩
  have eH : Same G0 H' := e0.trans ok'.st.e2
  by_cases hlt : i < ds.length
  · refine .inr ⟨wk.go i H' eH hlt, fun σ2 H2 => ∃ I0 δ', Same G0 I0 ∧ Ok X.K B He I0 δ' σ2 H2 ∧ forGo t T E (ds.drop (i + 1)) δ', fun σ2 H2 ⟨I2, δ2, e2, ok2, go2⟩ => ⟨ds.length - (i + 1), by omega, rfl, hlt, I2, δ2, e2, ok2, go2⟩, fun x H2 y => ?_⟩
    have hd : ds[i]? = some ds[i] := List.getElem?_eq_getElem hlt
    obtain ⟨I1, s1, r1⟩ := wk.yld i H' x H2 _ eH y hd I0 e0 ok'.st.e2
    rw [List.drop_eq_getElem_cons hlt] at go
    refine g2 _ δ' _ go I1 σ' H2 x (ok'.to s1) r1 _ fun δ3 σ3 h3 ok3 => ?_
    have e3 : Same G0 I1 := e0.trans s1.e0
    exact b2 _ δ3 h3 _ I1 σ3 H2 ⟨fun δ4 I4 σ4 H4 h4 ok4 s4 => ⟨I4, δ4, e3.trans s4, ok4, h4⟩, L.rt, fun δ4 I4 σ4 H4 h4 ok4 s4 => L.nx δ4 I4 σ4 H4 h4 ok4 ((s.e0.trans e3).trans s4), fun δ4 I4 σ4 H4 h4 ok4 s4 => ⟨I4, δ4, e3.trans s4, ok4, h4⟩⟩ ok3
  · have e : i = ds.length := by omega
    subst e
    rw [List.drop_length] at go
    exact .inl ⟨wk.stop H' eH, L.nx δ' I0 σ' H' go ok' (s.e0.trans e0)⟩
end
end J
/-! J8: while, stores of several, comprehensions, calls, a def -/
namespace J
open PySem L2

section
variable {X : Cx} {B He : Hp} {st : Stmt} {pos : Pos} {e a b c : Expr} {ta tb tc : DE} {ua ub uc : TE}
/-! ### while -/
def whileGo (t : DT) (T : DS) (E : EndsD) : Nat → List DV → Prop
  | 0, _ => False
  | n + 1, δ => t δ fun b => match b with
    | true => T { nx := whileGo t T E n, rt := E.rt, bk := E.nx, ct := whileGo t T E n } δ
    | false => E.nx δ
def dWhile (t : DT) (T : DS) : DS := fun E δ => ∃ n, whileGo t T E n δ
theorem sd_while {body : List Stmt} {t : DT} {ut : TT} {T : DS} (hc : PTd X c ut t) (hb : PSsd X B He body T) (hp : PassesOwn (model X.prog X.w) X.A X.env X.xe := by exact PassesOwn.never) : PSd X B He (.While c body [] pos) (dWhile t T) := by
  obtain ⟨c1, c2⟩ := hc
  obtain ⟨tb, b1, b2⟩ := hb.ex
  refine ⟨_, ps_while hp c1 b1, fun E δ h D H0 σ H L ok => ?_⟩
  obtain ⟨n, hn⟩ := h
  refine ⟨fun m σ' H' => ∃ I0 δ', Same H0 I0 ∧ Ok X.K B He I0 δ' σ' H' ∧ whileGo t T E m δ', ⟨n, H0, δ, Same.refl _, ok, hn⟩, ?_⟩
  rintro m σ' H' ⟨I0, δ', e0, ok', go⟩
  cases m with
  | zero => exact go.elim
  | succ m =>
    refine c2 δ' _ go I0 H' σ' _ ok'.st.e2 ok'.env fun b G hb s => ?_
    have ok2 := ok'.to (G0 := I0) (G := G) ⟨s, Same.refl _, ok'.st.e2.trans s, fun a o q n => by rw [n] at q; cases q⟩
    cases b with
    | true =>
      rw [if_pos rfl]
      refine ⟨fun σ2 H2 => ∃ I0 δ', Same H0 I0 ∧ Ok X.K B He I0 δ' σ2 H2 ∧ whileGo t T E m δ', fun σ2 H2 w => ⟨m, Nat.lt_succ_self m, w⟩, ?_⟩
      exact b2 _ δ' hb _ I0 σ' G ⟨fun δ4 I4 σ4 H4 h4 ok4 s4 => ⟨I4, δ4, e0.trans s4, ok4, h4⟩, L.rt, fun δ4 I4 σ4 H4 h4 ok4 s4 => L.nx δ4 I4 σ4 H4 h4 ok4 (e0.trans s4), fun δ4 I4 σ4 H4 h4 ok4 s4 => ⟨I4, δ4, e0.trans s4, ok4, h4⟩⟩ ok2
    | false =>
      rw [if_neg Bool.false_ne_true]
      exact L.nx δ' I0 σ' G hb ok2 e0

/-! ### a, b = x, y -/
def dPar2 (i j : Nat) (ta tb : DE) : DS := fun E δ => ta δ fun x => tb δ fun y => asgD x fun d => asgD y fun d2 => E.nx ((δ.set i (.tr d)).set j (.tr d2))
theorem sd_par2_of {i j : Nat} (hp : ∀ t, PA X [a, b] t → PS X st (tPar i j t)) (ha : PEd X a ua ta) (hb : PEd X b ub tb) (h1 : starEach [a, b] X.env = (false, eval a X.env) :: starEach [b] X.env := by rfl) (h2 : starEach [b] X.env = (false, eval b X.env) :: starEach [] X.env := by rfl) :
    PSd X B He st (dPar2 i j ta tb) := by
  obtain ⟨a1, a2⟩ := ha
  obtain ⟨b1, b2⟩ := hb
  refine ⟨_, hp _ (pa_cons a1 (pa_cons b1 pa_nil h2) h1), fun E δ h D H0 σ H L ok => ?_⟩
  refine a2 δ _ h H0 H σ _ ok.st.e2 ok.env fun v x G0 G hx s r1 => ?_
  refine b2 δ _ hx G0 G σ _ s.e2 (ok.env.to s.e0 s.e1) fun w y I0 I hy s2 r2 => ?_
  obtain ⟨d, hd, w1⟩ := (ok.w.to (s.trans s2)).asg (i := i) r1 s2 s.e1 hy
  obtain ⟨d2, hd2, w2⟩ := w1.asg (i := j) r2 (Step.refl s2.e2) s2.e1 hd
  exact ⟨v, w, rfl, L.nx _ I0 _ I hd2 w2.ok (s.e0.trans s2.e0)⟩
def dPar3 (i j l : Nat) (ta tb tc : DE) : DS := fun E δ => ta δ fun x => tb δ fun y => tc δ fun z => asgD x fun d => asgD y fun d2 => asgD z fun d3 => E.nx (((δ.set i (.tr d)).set j (.tr d2)).set l (.tr d3))
theorem sd_par3_of {i j l : Nat} (hp : ∀ t, PA X [a, b, c] t → PS X st (tPar3 i j l t)) (ha : PEd X a ua ta) (hb : PEd X b ub tb) (hc : PEd X c uc tc) (h1 : starEach [a, b, c] X.env = (false, eval a X.env) :: starEach [b, c] X.env := by rfl)
    (h2 : starEach [b, c] X.env = (false, eval b X.env) :: starEach [c] X.env := by rfl) (h3 : starEach [c] X.env = (false, eval c X.env) :: starEach [] X.env := by rfl) : PSd X B He st (dPar3 i j l ta tb tc) := by
  obtain ⟨a1, a2⟩ := ha
  obtain ⟨b1, b2⟩ := hb
  obtain ⟨c1, c2⟩ := hc
  refine ⟨_, hp _ (pa_cons a1 (pa_cons b1 (pa_cons c1 pa_nil h3) h2) h1), fun E δ h D H0 σ H L ok => ?_⟩
  refine a2 δ _ h H0 H σ _ ok.st.e2 ok.env fun v x G0 G hx s r1 => ?_
  refine b2 δ _ hx G0 G σ _ s.e2 (ok.env.to s.e0 s.e1) fun w y I0 I hy s2 r2 => ?_
  have s12 := s.trans s2
  refine c2 δ _ hy I0 I σ _ s2.e2 (ok.env.to s12.e0 s12.e1) fun u z J0 J hz s3 r3 => ?_
  obtain ⟨d, hd, w1⟩ := (ok.w.to (s12.trans s3)).asg (i := i) r1 (s2.trans s3) s.e1 hz
  obtain ⟨d2, hd2, w2⟩ := w1.asg (i := j) r2 s3 s2.e1 hd
  obtain ⟨d3, hd3, w3⟩ := w2.asg (i := l) r3 (Step.refl s3.e2) s3.e1 hd2
  exact ⟨v, w, u, rfl, L.nx _ J0 _ J hd3 w3.ok (s12.e0.trans s3.e0)⟩

/-! ### x[i], x[j] = a, b: x held here -/
/-- one store at a place -/
def setAt (k : Nat) (ti : DE) (d : D) (δ : List DV) (P : List DV → Prop) : Prop := match δ[k]? with
  | some (.tr (.olst ds)) => ti δ fun y => asI y fun i => match ixN ds.length i with
    | some n => P (δ.set k (.tr (.olst (ds.set n d))))
    | none => False
  | _ => False
theorem setAt_inv {k : Nat} {ti : DE} {d : D} {δ : List DV} {P : List DV → Prop} (h : setAt k ti d δ P) : ∃ ds, δ[k]? = some (.tr (.olst ds)) ∧ ti δ fun y => asI y fun i => match ixN ds.length i with
    | some n => P (δ.set k (.tr (.olst (ds.set n d))))
    | none => False := by
  unfold setAt at h
  split at h
  · rename_i ds q
    exact ⟨ds, q, h⟩
  · exact h.elim
theorem setAt_run {k : Nat} {ti : DE} {ui : TE} {d : D} {δ : List DV} {P : List DV → Prop} {v : V} (hs : SndE X.K ui ti) (h : setAt k ti d δ P) {H0 H : Hp} {σ : L2.St} (ok : Ok X.K B He H0 δ σ H) (r : Rep X.K H0 v d) {Q : L2.St → Hp → Prop}
    (q : ∀ δ' G0 G, P δ' → Ok X.K B He G0 δ' σ G → Same H0 G0 → Q σ G) : gSub (tVar k) ui rSetL v σ H Q := by
  obtain ⟨ds, hq, hT⟩ := setAt_inv h
  obtain ⟨f, hf⟩ := ok.own
  obtain ⟨w, hv, o1⟩ := hf.is k _ hq
  obtain ⟨l, vs, ef, rfl, hl, hr⟩ := o1.olst
  refine ⟨.ref l, hv, hs δ _ hT H0 H σ _ ok.st.e2 ok.env fun u y G0 G hy s ry => ?_⟩
  obtain ⟨i, rfl, hp⟩ := asI_inv hy
  have ok2 := ok.to s
  obtain ⟨f2, hf2⟩ := ok2.own
  obtain ⟨v2, hv2, o2⟩ := hf2.is k _ hq
  rw [hv] at hv2
  have ev : V.ref l = v2 := Option.some.inj (Option.some.inj hv2)
  subst ev
  obtain ⟨l2, ws, ef2, el, hl2, hr2⟩ := o2.olst
  have e3 : l = l2 := V.ref.inj el
  subst e3
  cases qn : ixN ds.length i with
  | none => rw [qn] at hp; exact hp.elim
  | some n =>
    rw [qn] at hp
    refine ⟨l, ws, i, n, rfl, res_int ry, hl2, by rw [hr2.len]; exact qn, q _ G0 _ hp ?_ s.e0⟩
    refine Holds.write ok2 hf2 (by rw [ef2]; exact List.mem_cons_self) hv (lt_of_get hq) ?_
    rw [ef2]
    exact .one (.olst upd_same (hr2.setI n (r.to s.e0)))
/-- x[i], x[j] = e, e a pair -/
def dSwap (k : Nat) (ti tj te : DE) : DS := fun E δ => te δ fun x => match x with
  | .tup [d1, d2] => setAt k ti d1 δ fun δ1 => setAt k tj d2 δ1 E.nx
  | _ => False
theorem sd_swap {k : Nat} {ti tj te : DE} {ui uj ue : TE} (hp : ∀ te, PE X e te → PS X st (tAsg te (gTup X.K 2 (gCons (gSub (tVar k) ui rSetL) (gCons (gSub (tVar k) uj rSetL) gNil))))) (hi : SndE X.K ui ti) (hj : SndE X.K uj tj) (he : PEd X e ue te) : PSd X B He st (dSwap k ti tj te) := by
  obtain ⟨e1, e2⟩ := he
  refine ⟨_, hp _ e1, fun E δ h D H0 σ H L ok => e2 δ _ h H0 H σ _ ok.st.e2 ok.env fun v x G0 G hx s r => ?_⟩
  dsimp only at hx
  split at hx
  · rename_i d1 d2
    cases r.rep_of rfl with
    | tup h1 h2 =>
      cases h2 with
      | cons r1 t =>
        cases t with
        | cons r2 t2 =>
          cases t2
          refine ⟨_, _, rfl, .of (s.e2 _ _ h1), rfl, _, _, rfl, setAt_run hi hx (ok.to s) r1 fun δ1 I0 I h1 ok1 s1 => ⟨_, _, rfl, setAt_run hj h1 ok1 (r2.to s1) fun δ2 J0 J h2 ok2 s2 => ⟨rfl, L.nx δ2 J0 σ J h2 ok2 (s.e0.trans (s1.trans s2))⟩⟩⟩
  · exact hx.elim
end

/-! ### comprehensions -/
section
variable {X : Cx} {pos : Pos}
abbrev Blk (X : Cx) (scope : Scope) (s : Shared) (H : Hp) (C : Addr) (cl : List (Str × Addr)) (fp : List Addr) : Cx := X.blk s H scope (compEnvC scope cl C X.env) fp
structure PTsd (X : Cx) (ifs : List Expr) (tt : TT) (T : DT) : Prop where
  p : PTs X ifs tt
  s : SndT X.K tt T
def dYes : DT := fun _ P => P true
theorem ptn : PTsd X [] tYes dYes := ⟨pts_nil, fun δ P h H0 H1 σ Q e env k => k true H1 h (Same.refl _)⟩
theorem pto {c : Expr} {ut : TT} {t : DT} (h : PTd X c ut t) : PTsd X [c] ut t := ⟨pts_one h.p, h.s⟩
def compGo (j : Nat) (tt : DT) (te : DE) (P : D → Prop) : List D → List D → List DV → Prop
  | [], acc, _ => P (.mv (.olst acc))
  | d :: ds, acc, δ => tt (δ.set j (.tr d)) fun b => match b with
    | true => te (δ.set j (.tr d)) fun y => y.plain = true ∧ acc.length ≤ 100000 ∧ compGo j tt te P ds (acc ++ [y]) δ
    | false => compGo j tt te P ds acc δ
def dLc (j : Nat) (Ti : DI) (tt : DT) (te : DE) : DE := fun δ P => Ti δ fun ds => compGo j tt te P ds [] δ
theorem env_set {K : PySem.W.Frag} {H0 H : Hp} {δ : List DV} {σ : L2.St} {j : Nat} {d : D} {v : V} (h : EnvE K H0 H δ σ) (r : Rep K H0 v d) : EnvE K H0 H (δ.set j (.tr d)) ((wipe σ [j]).set j (some v)) := by
  have e : (wipe σ [j]).set j (some v) = σ.set j (some v) := by
    show (σ.set j none).set j (some v) = σ.set j (some v)
    rw [List.set_set]
  rw [e]
  refine ⟨fun i d' q => ?_, by rw [List.length_set, List.length_set]; exact h.len⟩
  by_cases c : i = j
  · subst c
    cases z : (δ.set i (DV.tr d))[i]? with
    | none => rw [z] at q; cases q
    | some x =>
      have lt : i < δ.length := by
        have := lt_of_get z
        rwa [List.length_set] at this
      rw [List.getElem?_set_self lt] at q
      have e2 : d = d' := Option.some.inj q
      subst e2
      exact ⟨v, [], List.getElem?_set_self (by rw [← h.len]; exact lt), .one (.leaf r)⟩
  · rw [List.getElem?_set_ne (Ne.symm c)] at q
    obtain ⟨u, p, a, b⟩ := h.at_ i d' q
    exact ⟨u, p, by rw [List.getElem?_set_ne (Ne.symm c)]; exact a, b⟩
/-- the comprehension itself: N: how many slots -/
theorem snd_lc {K : PySem.W.Frag} {j : Nat} {wi : TI} {Ti : DI} {tt : TT} {Tt : DT} {te : TE} {T : DE} (hi : SndI K wi Ti)
    (ht : SndT K tt Tt) (he : SndE K te T) {δ : List DV} {P : D → Prop} (h : dLc j Ti Tt T δ P) {H0 H1 : Hp} {σ : L2.St} {Q : VK} (e : Same H0 H1) (env : EnvE K H0 H1 δ σ) (k : Kont K H0 H1 P Q) : tLc wi (gName j) tt te [j] σ H1 Q := by
  refine hi δ _ h H0 H1 σ _ e env fun J ds G0 G hgo s wk => ?_
  intro Dl hD
  refine ⟨fun i m H' => m = ds.length - i ∧ i ≤ ds.length ∧ ∃ I0 acc vs, Same G0 I0 ∧ Same I0 H' ∧ Step H0 H1 I0 H' ∧ EnvE K I0 H' δ σ ∧ H' Dl = some (.lst vs) ∧ I0 Dl = none ∧ RepL K I0 vs acc ∧ compGo j Tt T P (ds.drop i) acc δ,
    ⟨_, rfl, Nat.zero_le _, G0, [], [], Same.refl _, s.e2.trans (same_new hD), s.grow (same_new hD), env.to s.e0 (s.e1.trans (same_new hD)), upd_same, s.e2.free hD, .nil, hgo⟩, ?_⟩
  have nD1 : H1 Dl = none := s.e1.free hD
  have nD0 : H0 Dl = none := e.free nD1
  rintro i m H' ⟨rfl, hi, I0, acc, vs, e0, e1, s0, env', hDl, nD, rl, go⟩
  have eH : Same G0 H' := e0.trans e1
  by_cases hlt : i < ds.length
  · refine .inr ⟨wk.go i H' eH hlt, fun H2 => ∃ I0 acc vs, Same G0 I0 ∧ Same I0 H2 ∧ Step H0 H1 I0 H2 ∧ EnvE K I0 H2 δ σ ∧ H2 Dl = some (.lst vs) ∧ I0 Dl = none ∧ RepL K I0 vs acc ∧ compGo j Tt T P (ds.drop (i + 1)) acc δ, fun H2 w => ⟨ds.length - (i + 1), by omega, rfl, hlt, w⟩, fun x H2 y => ?_⟩
    have hd : ds[i]? = some ds[i] := List.getElem?_eq_getElem hlt
    obtain ⟨I1, s1, r1⟩ := wk.yld i H' x H2 _ eH y hd I0 e0 e1
    rw [List.drop_eq_getElem_cons hlt] at go
    have env2 := env_set (j := j) (env'.to s1.e0 s1.e1) r1
    have keepD : ∀ {A0 A : Hp}, Step I0 H' A0 A → A Dl = some (.lst vs) ∧ A0 Dl = none := fun {A0 A} z => by
      refine ⟨z.e1 _ _ hDl, ?_⟩
      cases q : A0 Dl with
      | none => rfl
      | some o =>
        have w := z.fr Dl o q nD
        rw [hDl] at w
        cases w
    refine ⟨?_, ht _ _ go I1 H2 _ _ s1.e2 env2 fun b A hb sA => ?_⟩
    · show (((σ.set j none).set j (some x)).set j none) = σ.set j none
      rw [List.set_set, List.set_set]
    have sA1 : Step I0 H' I1 A := s1.grow sA
    cases b with
    | true =>
      rw [if_pos rfl]
      refine he _ _ hb I1 A _ _ (s1.e2.trans sA) (env2.to (Same.refl _) sA) fun u z A0 A2 hz s2 r2 => ?_
      have s3 : Step I0 H' A0 A2 := sA1.trans s2
      obtain ⟨k1, k2⟩ := keepD s3
      have nH1 : ∀ o, H1 Dl = some o → False := fun o q => by rw [nD1] at q; cases q
      refine ⟨vs, k1, sz6 (by rw [rl.len]; exact hz.2.1), A0, acc ++ [z], _, e0.trans s3.e0, fun a o q => ?_, ?_, ?_, upd_same, k2, (rl.to s3.e0).app (.cons (r2.rep_of hz.1) .nil), hz.2.2⟩
      · have ne : a ≠ Dl := fun z => by rw [z, k2] at q; cases q
        rw [upd_ne ne]
        exact s3.e2 a o q
      · have s4 := s0.trans s3
        exact ⟨fun a o q => by rw [upd_ne (fun z => nH1 o (by rw [← z]; exact q))]; exact s4.e1 a o q, s4.e0, fun a o q => by rw [upd_ne (fun z => by rw [z, k2] at q; cases q)]; exact s4.e2 a o q, s4.fr⟩
      · refine ⟨fun i' d' q' => ?_, env.len⟩
        obtain ⟨u', p', a', b'⟩ := env.at_ i' d' q'
        have s4 := s0.trans s3
        refine ⟨u', p', a', b'.mono s4.e0 fun y hy o ho => ?_⟩
        rw [upd_ne (fun z => nH1 o (by rw [← z]; exact ho))]
        exact s4.e1 y o ho
    | false =>
      rw [if_neg Bool.false_ne_true]
      obtain ⟨k1, k2⟩ := keepD sA1
      exact ⟨I1, acc, vs, e0.trans s1.e0, sA1.e2, s0.trans sA1, env'.to sA1.e0 sA1.e1, k1, k2, rl.to s1.e0, hb⟩
  · have ei : i = ds.length := by omega
    subst ei
    rw [List.drop_length] at go
    refine .inl ⟨wk.stop H' eH, k _ _ I0 H' go s0 ⟨[Dl], .one (.olst hDl rl), List.nodup_cons.mpr ⟨List.not_mem_nil, List.nodup_nil⟩, fun a ha => ?_⟩⟩
    rcases List.mem_cons.mp ha with z | z
    · rw [z]
      exact ⟨nD, nD1⟩
    · cases z
end
end J
/-! J9: comprehensions as values, calls, a def, a class's own way in -/
namespace J
open PySem PySem.Spec PyProof.Rows L2

/-- one reading for each moment: all of them -/
def allE (te : Shared → Hp → Addr → List (Str × Addr) → List Addr → TE) : TE := fun σ H Q => ∀ s G C cl fp, te s G C cl fp σ H Q
def allT (tt : Shared → Hp → Addr → List (Str × Addr) → List Addr → TT) : TT := fun σ H Q => ∀ s G C cl fp, tt s G C cl fp σ H Q
theorem pe_all {X : Cx} {e : Expr} {te : Shared → Hp → Addr → List (Str × Addr) → List Addr → TE} {s : Shared} {G : Hp} {C : Addr} {cl : List (Str × Addr)} {fp : List Addr} (h : PE X e (te s G C cl fp)) : PE X e (allE te) := ⟨fun pins s2 σ H Q I q => h.run pins s2 σ H Q I (q s G C cl fp)⟩
theorem pts_all {X : Cx} {es : List Expr} {tt : Shared → Hp → Addr → List (Str × Addr) → List Addr → TT} {s : Shared} {G : Hp} {C : Addr} {cl : List (Str × Addr)} {fp : List Addr} (h : PTs X es (tt s G C cl fp)) : PTs X es (allT tt) := ⟨fun pins s2 σ H Q I q => h.run pins s2 σ H Q I (q s G C cl fp)⟩
theorem snd_allE {K : PySem.W.Frag} {te : Shared → Hp → Addr → List (Str × Addr) → List Addr → TE} {T : DE} (h : ∀ s G C cl fp, SndE K (te s G C cl fp) T) : SndE K (allE te) T := fun δ P hT H0 H1 σ Q e env k s G C cl fp => h s G C cl fp δ P hT H0 H1 σ Q e env k
theorem snd_allT {K : PySem.W.Frag} {tt : Shared → Hp → Addr → List (Str × Addr) → List Addr → TT} {T : DT} (h : ∀ s G C cl fp, SndT K (tt s G C cl fp) T) : SndT K (allT tt) T := fun δ P hT H0 H1 σ Q e env k s G C cl fp => h s G C cl fp δ P hT H0 H1 σ Q e env k
section
variable {X : Cx} {B He : Hp} {st : Stmt} {pos : Pos} {e : Expr} {es : List Expr} {ta : DE} {ua : TE} {tr : DA} {ur : TA}
theorem pd_lc {elt iter : Expr} {ifs : List Expr} {scope : Scope} {x : Str} {j : Nat} {p : Pos} {wi : TI} {Ti : DI} {tt : Shared → Hp → Addr → List (Str × Addr) → List Addr → TT} {Tt : DT} {te : Shared → Hp → Addr → List (Str × Addr) → List Addr → TE} {T : DE} (hc : X.calm = true) (nd : X.N.Nodup) (hi : PId X (.Name x p) iter wi Ti) (ok : BlkOk X.N X.env.scope scope [(x, j)])
    (hg : ∀ (s : Shared) (H : Hp) (C : Addr) (cl : List (Str × Addr)) (fp : List Addr), PG (Blk X scope s H C cl fp) (.Name x p) (gName j)) (ht : ∀ (s : Shared) (H : Hp) (C : Addr) (cl : List (Str × Addr)) (fp : List Addr), PTsd (Blk X scope s H C cl fp) ifs (tt s H C cl fp) Tt)
    (he : ∀ (s : Shared) (H : Hp) (C : Addr) (cl : List (Str × Addr)) (fp : List Addr), PEd (Blk X scope s H C cl fp) elt (te s H C cl fp) T) (hs : ∀ x, foldedSetIterable iter X.env x = pure x := by intro _; rfl) :
    PEd X (.ListComp elt [⟨.Name x p, iter, ifs, 0⟩] scope pos) (tLc wi (gName j) (allT tt) (allE te) [j]) (dLc j Ti Tt T) :=
  ⟨pe_lc (own := [(x, j)]) hc nd hi.p ok hg (fun s H C cl fp => pts_all (ht s H C cl fp).p) (fun s H C cl fp => pe_all (he s H C cl fp).p) hs,
    fun δ P h H0 H1 σ Q e env k => snd_lc hi.s (snd_allT fun s H C cl fp => (ht s H C cl fp).s) (snd_allE fun s H C cl fp => (he s H C cl fp).s) h e env k⟩
/-- x = e by any rule -/
theorem sd_asg {i : Nat} {te : TE} {T : DE} (hp : PS X st (tAsg te (gName i))) (hs : SndE X.K te T) : PSd X B He st (dSet i T) :=
  ⟨_, hp, fun E δ h D H0 σ H L ok => hs δ _ h H0 H σ _ ok.st.e2 ok.env fun v x G0 G hx s r => by
    obtain ⟨d, hd, ok'⟩ := ok.asg (i := i) s r hx
    exact L.nx _ G0 _ G hd ok' s.e0⟩
/-- y = [..] -/
theorem sd_setLc {elt iter : Expr} {ifs : List Expr} {scope : Scope} {x y : Str} {i j : Nat} {p py : Pos} {spos : Pos} {wi : TI} {Ti : DI} {tt : Shared → Hp → Addr → List (Str × Addr) → List Addr → TT} {Tt : DT} {te : Shared → Hp → Addr → List (Str × Addr) → List Addr → TE} {T : DE} (hc : X.calm = true) (nd : X.N.Nodup) (hi : PId X (.Name x p) iter wi Ti) (ok : BlkOk X.N X.env.scope scope [(x, j)])
    (hg : ∀ (s : Shared) (H : Hp) (C : Addr) (cl : List (Str × Addr)) (fp : List Addr), PG (Blk X scope s H C cl fp) (.Name x p) (gName j)) (ht : ∀ (s : Shared) (H : Hp) (C : Addr) (cl : List (Str × Addr)) (fp : List Addr), PTsd (Blk X scope s H C cl fp) ifs (tt s H C cl fp) Tt)
    (he : ∀ (s : Shared) (H : Hp) (C : Addr) (cl : List (Str × Addr)) (fp : List Addr), PEd (Blk X scope s H C cl fp) elt (te s H C cl fp) T) (hsw : swapsWith (.ListComp elt [⟨.Name x p, iter, ifs, 0⟩] scope pos) (some (.Name y py)) spos.line X.env = pure true) (hy : X.N[i]? = some y := by rfl) (hyl : X.env.scope.names.lookup y = some .local := by rfl)
    (hs : ∀ x, foldedSetIterable iter X.env x = pure x := by intro _; rfl) : PSd X B He (.Assign [.Name y py] (.ListComp elt [⟨.Name x p, iter, ifs, 0⟩] scope pos) spos) (dSet i (dLc j Ti Tt T)) :=
  sd_asg (ps_setLc (own := [(x, j)]) hc nd hy hyl hsw hi.p ok hg (fun s H C cl fp => pts_all (ht s H C cl fp).p) (fun s H C cl fp => pe_all (he s H C cl fp).p) hs)
    fun δ P h H0 H1 σ Q e env k => snd_lc hi.s (snd_allT fun s H C cl fp => (ht s H C cl fp).s) (snd_allE fun s H C cl fp => (he s H C cl fp).s) h e env k

/-! ### calls of the program's own -/
abbrev GD : Type := List D → (D → Prop) → Prop
def spD (K : PySem.W.Frag) (n : Nat) (G : GD) : Sp := fun vs H Q _ => vs.length = n ∧ ∃ ds P H0, G ds P ∧ Same H0 H ∧ RepL K H0 vs ds ∧ Kont K H0 H P Q
/-- f(..), all that is handed in plain -/
def dCall (G : GD) (t : DA) : DE := fun δ P => t δ fun ds => ds.all D.plain = true ∧ G ds P
theorem snd_call {K : PySem.W.Frag} {n : Nat} {G : GD} (hn : ∀ ds P, G ds P → ds.length = n) (hs : SndA K ur tr) : SndE K (tCall (spD K n G) [] E0 ur) (dCall G tr) := fun δ P hT H0 H1 σ Q e env k => hs δ _ hT H0 H1 σ _ e env fun vs ds G0 G1 hx s al => by
  have r := al.rep hx.1
  rw [List.append_nil]
  exact ⟨r.len.trans (hn _ _ hx.2), ds, P, G0, hx.2, s.e2, r, k.after s⟩
theorem pd_call {x : Str} {p : Pos} {f : Addr} {fd : FuncData} {k n : Nat} {ps : List Str} {G : GD} (F : FnOk X.prog X.w X.K X.mg X.base CX0 k f fd ps (spD X.K n G)) (hr : Room k X.A) (hm : X.mg x = some (.ref f)) (kp : PySem.W.keepIn X.K (.ref f) = true) (hb : Binds X.K fd ps []) (hn : ∀ ds P, G ds P → ds.length = n)
    (ha : PAd X (e :: es) ur tr) (hg : Gl X x := by rfl) (hdb : (x == ("__debug__" : Str)) = false := by decide) (he : starEach (e :: es) X.env = (false, eval e X.env) :: starEach es X.env := by rfl) (hpl : (backTo pos (starEach es X.env)).any (·.1) = false := by rfl) :
    PEd X (.Call (.Name x p) (e :: es) [] pos) (tCall (spD X.K n G) [] E0 ur) (dCall G tr) := ⟨pe_call F hr hg hm kp hb .nil pass0 ha.p hdb he hpl, snd_call hn ha.s⟩
/-! what is held may be handed in where the answer holds none of it -/
def D.scal : D → Bool
  | .non => true
  | .bl _ => true
  | .int _ => true
  | .str _ => true
  | _ => false
def D.leafy : D → Bool
  | .mv (.olst ds) => ds.all D.scal
  | .mv (.oll dss) => dss.all fun ds => ds.all D.scal
  | .mv (.oobj _ gs) => gs.all fun g => match g.2 with
    | .olst ds => ds.all D.scal
    | .oll dss => dss.all fun ds => ds.all D.scal
    | d => d.scal
  | .mv d => d.scal
  | d => d.scal
theorem Rep.sc {K : PySem.W.Frag} {H H' : Hp} {v : V} {d : D} (h : Rep K H v d) (e : d.scal = true) : Rep K H' v d := by
  cases h <;> first | exact .non | exact .bl _ | exact .int _ | exact .str _ | cases e
theorem RepL.sc {K : PySem.W.Frag} {H H' : Hp} : ∀ {vs : List V} {ds : List D}, RepL K H vs ds → ds.all D.scal = true → RepL K H' vs ds
  | _, _, .nil, _ => .nil
  | _, _, .cons a t, e => by
    rw [List.all_cons, Bool.and_eq_true] at e
    exact .cons (a.sc e.1) (t.sc e.2)
theorem RepLL.sc {K : PySem.W.Frag} {H0 H0' H : Hp} : ∀ {as : List Addr} {dss : List (List D)}, RepLL K H0 H as dss → (dss.all fun ds => ds.all D.scal) = true → RepLL K H0' H as dss
  | _, _, .nil, _ => .nil
  | _, _, .cons h a t, e => by
    rw [List.all_cons, Bool.and_eq_true] at e
    exact .cons h (a.sc e.1) (t.sc e.2)
theorem OwnF.sc {K : PySem.W.Frag} {H0 H0' H : Hp} : ∀ {p : List Addr} {fs : List (Str × V)} {gs : List (Str × D)}, OwnF K H0 H p fs gs → (gs.all fun g => match g.2 with
    | .olst ds => ds.all D.scal
    | .oll dss => dss.all fun ds => ds.all D.scal
    | d => d.scal) = true → OwnF K H0' H p fs gs
  | _, _, _, .nil, _ => .nil
  | _, _, _, .cons h t, e => by
    rw [List.all_cons, Bool.and_eq_true] at e
    refine .cons ?_ (t.sc e.2)
    have e1 := e.1
    cases h with
    | leaf r =>
      refine .leaf (r.sc ?_)
      cases r <;> exact e1
    | olst a b => exact .olst a (b.sc e1)
    | oll a b => exact .oll a (b.sc e1)
theorem Res.sc {K : PySem.W.Frag} {H1 G0 G I0 : Hp} {v : V} {d : D} (h : Res K H1 G0 G v d) (e : d.leafy = true) (f : ∀ p, Fresh G0 H1 p → Fresh I0 H1 p) : Res K H1 I0 G v d := by
  have sc : d.scal = true → d.plain = true → Res K H1 I0 G v d := fun e1 e2 => Res.rep ((h.rep_of e2).sc e1)
  cases d with
  | mv d =>
    obtain ⟨p, o, fr⟩ := h
    cases o with
    | one r =>
      cases r with
      | leaf r =>
        refine ⟨[], .one (.leaf (r.sc ?_)), f _ fr⟩
        cases r <;> exact e
      | olst a b => exact ⟨_, .one (.olst a (b.sc e)), f _ fr⟩
      | oll a b => exact ⟨_, .one (.oll a (b.sc e)), f _ fr⟩
    | oobj a b => exact ⟨_, .oobj a (b.sc e), f _ fr⟩
  | non => exact sc rfl rfl
  | bl _ => exact sc rfl rfl
  | int _ => exact sc rfl rfl
  | str _ => exact sc rfl rfl
  | _ => cases e
/-- all that is handed in is told plain -/
theorem AL.fz {K : PySem.W.Frag} {G0 G : Hp} (e : Same G0 G) : ∀ {vs : List V} {ds : List D}, AL K G0 G vs ds → ∃ I0, Same G0 I0 ∧ Same I0 G ∧ RepL K I0 vs (ds.map frz)
  | _, _, .nil => ⟨G0, Same.refl _, e, .nil⟩
  | _, _, .cons ⟨p, h⟩ t => by
    obtain ⟨I0, e1, e2, r⟩ := AL.fz e t
    refine ⟨more I0 G p, e1.trans (more_same e2), more_sub e2, .cons ?_ (r.to (more_same e2))⟩
    exact (h.to e1 (Same.refl _)).frz e2 (more_same e2) fun a ha o ho => by rw [more_in ha]; exact ho
def dCallB (G : GD) (t : DA) : DE := fun δ P => t δ fun ds => G (ds.map frz) fun d => d.leafy = true ∧ P d
theorem kont_b {K : PySem.W.Frag} {G0 G I0 : Hp} {P : D → Prop} {Q : VK} (e : Same G0 I0) (eI : Same I0 G) (k : Kont K G0 G P Q) : Kont K I0 G (fun d => d.leafy = true ∧ P d) Q := fun v d J0 J hp s r => by
  refine k v d G0 J hp.2 ⟨s.e1, Same.refl _, (e.trans eI).trans s.e1, fun a o q n => by rw [n] at q; cases q⟩ (r.sc hp.1 fun p fr => ⟨fr.1, fun a ha => ⟨(e.trans eI).free (fr.2 a ha).2, (fr.2 a ha).2⟩⟩)
theorem snd_callB {K : PySem.W.Frag} {n : Nat} {G : GD} (hn : ∀ ds P, G ds P → ds.length = n) (hs : SndA K ur tr) : SndE K (tCall (spD K n G) [] E0 ur) (dCallB G tr) := fun δ P hT H0 H1 σ Q e env k => hs δ _ hT H0 H1 σ _ e env fun vs ds G0 G1 hx s al => by
  obtain ⟨I0, e1, e2, r⟩ := AL.fz s.e2 al
  rw [List.append_nil]
  exact ⟨r.len.trans (hn _ _ hx), _, _, I0, hx, e2, r, kont_b e1 e2 (k.after s)⟩
theorem pd_callB {x : Str} {p : Pos} {f : Addr} {fd : FuncData} {k n : Nat} {ps : List Str} {G : GD} (F : FnOk X.prog X.w X.K X.mg X.base CX0 k f fd ps (spD X.K n G)) (hr : Room k X.A) (hm : X.mg x = some (.ref f)) (kp : PySem.W.keepIn X.K (.ref f) = true) (hb : Binds X.K fd ps []) (hn : ∀ ds P, G ds P → ds.length = n)
    (ha : PAd X (e :: es) ur tr) (hg : Gl X x := by rfl) (hdb : (x == ("__debug__" : Str)) = false := by decide) (he : starEach (e :: es) X.env = (false, eval e X.env) :: starEach es X.env := by rfl) (hpl : (backTo pos (starEach es X.env)).any (·.1) = false := by rfl) :
    PEd X (.Call (.Name x p) (e :: es) [] pos) (tCall (spD X.K n G) [] E0 ur) (dCallB G tr) := ⟨pe_call F hr hg hm kp hb .nil pass0 ha.p hdb he hpl, snd_callB hn ha.s⟩
/-! ### o.m(..) -/
/-- an instance of C whose fields don't hide m -/
def D.isA (C : Addr) (m : Str) : D → Prop
  | .obj C' gs => C' = C ∧ gs.lookup m = none
  | .oobj C' gs => C' = C ∧ gs.lookup m = none
  | _ => False
theorem RepF.none {K : PySem.W.Frag} {H : Hp} {m : Str} : ∀ {fs : List (Str × V)} {gs : List (Str × D)}, RepF K H fs gs → gs.lookup m = none → fs.lookup m = none
  | _, _, .nil, _ => rfl
  | _, _, .cons (x := x) a t, e => by
    rw [List.lookup_cons] at e ⊢
    cases q : m == x with
    | true => rw [q] at e; cases e
    | false =>
      rw [q] at e
      exact t.none e
theorem OwnF.none {K : PySem.W.Frag} {H0 H : Hp} {m : Str} : ∀ {p : List Addr} {fs : List (Str × V)} {gs : List (Str × D)}, OwnF K H0 H p fs gs → gs.lookup m = none → fs.lookup m = none
  | _, _, _, .nil, _ => rfl
  | _, _, _, .cons (x := x) a t, e => by
    rw [List.lookup_cons] at e ⊢
    cases q : m == x with
    | true => rw [q] at e; cases e
    | false =>
      rw [q] at e
      exact t.none e
theorem Own.isA {K : PySem.W.Frag} {H0 H : Hp} {p : List Addr} {v : V} {d : D} {C : Addr} {m : Str} (h : Own K H0 H p v d) (e : Same H0 H) (i : d.isA C m) : ∃ a dx fs, v = .ref a ∧ H a = some (.ins C dx fs) ∧ fs.lookup m = none := by
  cases d with
  | obj C' gs =>
    obtain ⟨rfl, hl⟩ := i
    cases h.rep with
    | obj h1 h2 => exact ⟨_, _, _, rfl, e _ _ h1, h2.none hl⟩
  | oobj C' gs =>
    obtain ⟨rfl, hl⟩ := i
    cases h with
    | one r => cases r with | leaf r => cases r
    | oobj h1 h2 => exact ⟨_, _, _, rfl, h1, h2.none hl⟩
  | _ => exact i.elim
def dMeth (C : Addr) (m : Str) (G : GD) (to : DE) (t : DA) : DE := fun δ P => to δ fun x => x.un.isA C m ∧ t δ fun ds => (x.un :: ds).all D.plain = true ∧ G (x.un :: ds) P
def dMethB (C : Addr) (m : Str) (G : GD) (to : DE) (t : DA) : DE := fun δ P => to δ fun x => x.un.isA C m ∧ t δ fun ds => G ((x.un :: ds).map frz) fun d => d.leafy = true ∧ P d
theorem snd_meth {K : PySem.W.Frag} {C : Addr} {m : Str} {n : Nat} {G : GD} {to : DE} {uo : TE} (hn : ∀ ds P, G ds P → ds.length = n) (ho : SndE K uo to) (hs : SndA K ur tr) : SndE K (tMeth C m (spD K n G) [] E0 uo ur) (dMeth C m G to tr) := fun δ P hT H0 H1 σ Q e env k =>
  ho δ _ hT H0 H1 σ _ e env fun v x G0 G1 hx s r => by
    obtain ⟨p, o⟩ := r.un
    obtain ⟨a, dx, fs, ev, h1, h2⟩ := o.isA s.e2 hx.1
    refine ⟨a, dx, fs, ev, h1, h2, hs δ _ hx.2 G0 G1 σ _ s.e2 (env.to s.e0 s.e1) fun vs ds I0 I hy s2 al => ?_⟩
    have rr := AL.rep (K := K) (.cons ⟨p, o.to s2.e0 s2.e1⟩ al) hy.1
    rw [List.append_nil]
    exact ⟨rr.len.trans (hn _ _ hy.2), _, P, I0, hy.2, s2.e2, rr, k.after (s.trans s2)⟩
theorem snd_methB {K : PySem.W.Frag} {C : Addr} {m : Str} {n : Nat} {G : GD} {to : DE} {uo : TE} (hn : ∀ ds P, G ds P → ds.length = n) (ho : SndE K uo to) (hs : SndA K ur tr) : SndE K (tMeth C m (spD K n G) [] E0 uo ur) (dMethB C m G to tr) := fun δ P hT H0 H1 σ Q e env k =>
  ho δ _ hT H0 H1 σ _ e env fun v x G0 G1 hx s r => by
    obtain ⟨p, o⟩ := r.un
    obtain ⟨a, dx, fs, ev, h1, h2⟩ := o.isA s.e2 hx.1
    refine ⟨a, dx, fs, ev, h1, h2, hs δ _ hx.2 G0 G1 σ _ s.e2 (env.to s.e0 s.e1) fun vs ds I0 I hy s2 al => ?_⟩
    obtain ⟨J0, e1, e2, rr⟩ := AL.fz (K := K) s2.e2 (.cons ⟨p, o.to s2.e0 s2.e1⟩ al)
    rw [List.append_nil]
    exact ⟨rr.len.trans (hn _ _ hy), _, _, J0, hy, e2, rr, kont_b e1 e2 (k.after (s.trans s2))⟩
end

/-! ### a def keeps its promise -/
section
variable {P : Program} {w : World} {K : PySem.W.Frag} {mg : Str → Option Value} {base : Heap} {x qual : Str} {params : Arguments} {body : List Stmt} {scope : Scope} {f : Addr} {fd : FuncData} {N ps : List Str} {k n : Nat} {G : GD} {T : DS}
abbrev Cxd (P : Program) (w : World) (K : PySem.W.Frag) (mg : Str → Option Value) (base : Heap) (N : List Str) (qual : Str) (scope : Scope) (f : Addr) (cdv : Value) (A : Around) (outer : List Env) (s : Shared) (H : Hp) : Cx := (cxOf CX0 P w K mg base N qual scope f cdv A outer s H E0).nox
def δof (m : Nat) (ds : List D) : List DV := ds.map DV.tr ++ List.replicate (m - ds.length) DV.no
theorem ok_start {vs : List V} {ds : List D} {H0 H : Hp} (e : Same H0 H) (r : RepL K H0 vs ds) : Ok K H H0 H0 (δof N.length ds) (L2.start N vs) H := by
  refine ⟨⟨Same.refl _, Same.refl _, e, fun a o q n => by rw [n] at q; cases q⟩, ⟨fun _ => [], fun i d q => ?_, fun i => ⟨List.nodup_nil, fun a ha => absurd ha List.not_mem_nil⟩, fun i j _ a ha => absurd ha List.not_mem_nil, fun i a ha => absurd ha List.not_mem_nil⟩, ?_⟩
  · unfold δof at q
    by_cases c : i < ds.length
    · rw [List.getElem?_append_left (by rw [List.length_map]; exact c), List.getElem?_map, List.getElem?_eq_getElem c] at q
      have ed : ds[i] = d := by
        have z : DV.tr ds[i] = DV.tr d := Option.some.inj q
        injection z
      obtain ⟨v, hv, rv⟩ := r.at (List.getElem?_eq_getElem c)
      rw [ed] at rv
      refine ⟨v, ?_, .one (.leaf rv)⟩
      unfold L2.start
      rw [List.getElem?_append_left (by rw [List.length_map]; exact lt_of_get hv), List.getElem?_map, hv] <;> rfl
    · rw [List.getElem?_append_right (by rw [List.length_map]; omega), List.getElem?_replicate] at q
      split at q <;> cases q
  · unfold δof L2.start
    rw [List.length_append, List.length_append, List.length_map, List.length_map, List.length_replicate, List.length_replicate, r.len]
theorem fn_ok (F : FunD K x qual params body scope [] [] f fd) (S : FnScope N ps scope) (hn : ps.length = n)
    (hb : ∀ (cdv : Value) (A : Around) (outer : List Env) (s : Shared) (H B He : Hp), Room k (A.deeper (envOfC qual scope s.heap.objs.size f cdv)) → PSsd (Cxd P w K mg base N qual scope f cdv A outer s H) B He body T)
    (hT : ∀ ds Q, G ds Q → T { nx := fun _ => Q .non, rt := Q } (δof N.length ds)) : FnOk P w K mg base CX0 (k + 1) f fd ps (spD K n G) := by
  refine F.ok S (fun vs H Q E h => h.1.trans hn.symm) fun cdv A outer s H vs Q E hr h => ?_
  obtain ⟨_, ds, R, H0, hG, e, r, kt⟩ := h
  obtain ⟨t, h1, h2⟩ := (hb cdv A outer s H H H0 hr).ex
  refine ⟨t, PSs.nox h1, h2 _ _ (hT ds R hG) _ H0 _ H ⟨fun δ G0 σ G hq ok _ => ?_, fun d v G0 G hq s r => ?_, fun δ G0 σ G hq _ _ => hq.elim, fun δ G0 σ G hq _ _ => hq.elim⟩ (ok_start e r)⟩
  · exact kt .non .non G0 G hq ok.st (Res.rep .non)
  · exact kt v d G0 G hq s r
end
end J
/-! J10: in a dict, isinstance, instances made -/
namespace J
open PySem PySem.Spec PyProof.Rows L2

section
variable {X : Cx} {pos : Pos} {a b e : Expr} {ta tb : DE} {ua ub : TE}
/-! ### (i, j) in d -/
def gInD : D → D → (D → Prop) → Prop := fun x y P => match x, y with
  | .tup [.int i, .int j], .dct ks => P (.bl (decide ((i, j) ∈ ks)))
  | _, _ => False
theorem tab_val (i j : Int) : ∀ ks : List (Int × Int), (valV (tab ks) [Sum.inl i, Sum.inl j]).isSome = decide ((i, j) ∈ ks)
  | [] => by simp [tab, valV]
  | k :: ks => by
    have ih := tab_val i j ks
    rw [← valV_any] at ih ⊢
    show (decide ([Sum.inl k.1, Sum.inl k.2] = ([Sum.inl i, Sum.inl j] : List Key)) || (tab ks).any _) = _
    rw [ih]
    by_cases c : (i, j) = k
    · subst c
      simp
    · have c1 : ¬ ([Sum.inl k.1, Sum.inl k.2] = ([Sum.inl i, Sum.inl j] : List Key)) := fun z => by
        simp only [List.cons.injEq, Sum.inl.injEq, and_true] at z
        exact c (Prod.ext z.1.symm z.2.symm)
      rw [decide_eq_false c1, Bool.false_or]
      refine decide_eq_decide.mpr ⟨fun m => List.mem_cons_of_mem _ m, fun m => ?_⟩
      rcases List.mem_cons.mp m with z | z
      · exact absurd z c
      · exact z
theorem snd_inD {K : PySem.W.Frag} (ha : SndE K ua ta) (hb : SndE K ub tb) : SndE K (tDIn ua ub) (dOp gInD ta tb) := fun δ P hT H0 H1 σ Q e env k => by
  refine ha δ _ hT H0 H1 σ _ e env fun v x G0 G hx s r1 => ?_
  refine hb δ _ hx G0 G σ _ s.e2 (env.to s.e0 s.e1) fun w y I0 I hy s2 r2 => ?_
  obtain ⟨p, o1⟩ := (r1.to s2).un
  obtain ⟨q, o2⟩ := r2.un
  have hy : gInD x.un y.un P := hy
  unfold gInD at hy
  split at hy
  · rename_i i j ks e1 e2
    rw [e1] at o1
    rw [e2] at o2
    obtain ⟨t, vs, rfl, h1, h2⟩ := o1.tup s2.e2
    have ev : vs = [.int i, .int j] := by
      have z : [D.int i, D.int j] = [i, j].map D.int := rfl
      rw [z] at h2
      exact h2.ints
    subst ev
    cases o2.rep with
    | dct h3 =>
      refine ⟨_, _, rfl, DGet.t (k := [Sum.inl i, Sum.inl j]) (s2.e2 _ _ h3) h1, ?_⟩
      rw [tab_val]
      exact (k.after (s.trans s2)).val s2.e2 hy (.bl _)
  · exact hy.elim
theorem pd_inD (hu : X.A.units + 1 < cLine) (ha : PEd X a ua ta) (hb : PEd X b ub tb) (hm : behindInMarks .In b = false := by rfl) : PEd X (.Compare a [.In] [b] pos) (tDIn ua ub) (dOp gInD ta tb) := ⟨pe_cmp (pc_din hu ha.p hb.p) hm, snd_inD ha.s hb.s⟩

/-! ### isinstance -/
def D.ty : D → Option String
  | .non => some "NoneType"
  | .bl _ => some "bool"
  | .int _ => some "int"
  | .str _ => some "str"
  | .lst _ => some "list"
  | .olst _ => some "list"
  | .oll _ => some "list"
  | .scr _ => none
  | .tup _ => some "tuple"
  | .dct _ => some "dict"
  | _ => none
/-- what isinstance asks of an own class -/
structure InsOk (K : PySem.W.Frag) (C : Addr) : Prop where
  cls : Cls K C
  ha : PySem.W.findIn K (.ref C) "__class__" = some (some (.builtin "object.__class__"))
  hn : PySem.W.specialIn K (.builtin "object.__class__") "__get__" = some (some (.builtin "getset_descriptor.__get__"))
  ht : PySem.W.takesIn K (.builtin "object.__class__") = some true
  hm : PySem.W.mroIn K C (.type "object") = some true
def gIsi (K : PySem.W.Frag) (u : Value) (x : D) (P : D → Prop) : Prop := match x with
  | .obj C _ => InsOk K C ∧ ∃ b, PySem.W.kitOne K (.ref C) u = some b ∧ P (.bl b)
  | .oobj C _ => InsOk K C ∧ ∃ b, PySem.W.kitOne K (.ref C) u = some b ∧ P (.bl b)
  | x => match x.ty with
    | some t => ∃ b, PySem.W.kitOne K (.type t) u = some b ∧ P (.bl b)
    | none => False
theorem gIsi_inv {K : PySem.W.Frag} {u : Value} {x : D} {P : D → Prop} (h : gIsi K u x P) {H0 H1 : Hp} {p : List Addr} {v : V} (e : Same H0 H1) (o : Own K H0 H1 p v x) : ∃ t b, TyX K H1 v t ∧ PySem.W.kitOne K t u = some b ∧ P (.bl b) := by
  have key : ∀ t, x.ty = some t → (∃ b, PySem.W.kitOne K (.type t) u = some b ∧ P (.bl b)) → TyX K H1 v (.type t) → ∃ t b, TyX K H1 v t ∧ PySem.W.kitOne K t u = some b ∧ P (.bl b) := fun t _ ⟨b, h1, h2⟩ ty => ⟨_, b, ty, h1, h2⟩
  cases x with
  | obj C gs =>
    obtain ⟨c, b, h1, h2⟩ := h
    cases o.rep with
    | obj h3 _ => exact ⟨_, b, .base (.ins (e _ _ h3) c.cls c.ha c.hn c.ht c.hm), h1, h2⟩
  | oobj C gs =>
    obtain ⟨c, b, h1, h2⟩ := h
    cases o with
    | one r => cases r with | leaf r => cases r
    | oobj h3 _ => exact ⟨_, b, .base (.ins h3 c.cls c.ha c.hn c.ht c.hm), h1, h2⟩
  | non => exact key _ rfl h (by rw [o.non]; exact .base .non)
  | bl _ => exact key _ rfl h (by rw [o.bl]; exact .base (.bl _))
  | int _ => exact key _ rfl h (by rw [o.int]; exact .base (.int _))
  | str _ => exact key _ rfl h (by rw [o.str]; exact .base (.str _))
  | lst ds =>
    obtain ⟨a, vs, rfl, h1, _⟩ := o.list e (ds := ds) rfl
    exact key _ rfl h (.base (.lst h1))
  | olst ds =>
    obtain ⟨a, vs, rfl, h1, _⟩ := o.list e (ds := ds) rfl
    exact key _ rfl h (.base (.lst h1))
  | oll dss =>
    cases o with
    | one r =>
      cases r with
      | leaf r => cases r
      | oll h1 _ => exact key _ rfl h (.base (.lst h1))
  | tup ds =>
    obtain ⟨a, vs, rfl, h1, _⟩ := o.tup e
    exact key _ rfl h (.base (.tup h1))
  | dct ks =>
    cases o.rep with
    | dct h1 => exact key _ rfl h (.base (.dT (e _ _ h1)))
  | scr _ => exact h.elim
  | fn _ => exact h.elim
  | mv _ => exact h.elim
def dIsi (K : PySem.W.Frag) (u : Value) (ta : DE) : DE := fun δ P => ta δ fun x => gIsi K u x.un P
theorem pd_isi {c : V} {u : Value} {y : Str} {p p2 : Pos} (hm : X.mg "isinstance" = none) (hc : PE X (.Name y p2) (tC c)) (hk : ClsV c u) (ha : PEd X a ua ta) (hg : Gl X "isinstance" := by rfl) (h1 : starEach [a, .Name y p2] X.env = (false, eval a X.env) :: starEach [.Name y p2] X.env := by rfl)
    (h2 : starEach [.Name y p2] X.env = (false, eval (.Name y p2) X.env) :: starEach [] X.env := by rfl) (hpl : (backTo pos (starEach [.Name y p2] X.env)).any (·.1) = false := by rfl) :
    PEd X (.Call (.Name "isinstance" p) [a, .Name y p2] [] pos) (tCB (rIsi X.K) (tCons ua (tCons (tC c) tNil))) (dIsi X.K u ta) := by
  obtain ⟨a1, a2⟩ := ha
  refine ⟨pe_callB call_isi hg hm boot_isinstance (pa_cons a1 (pa_cons hc pa_nil h2) h1) (by decide) (by decide) h1 hpl, fun δ P hT H0 H1 σ Q e env k => a2 δ _ hT H0 H1 σ _ e env fun v x G0 G hx s r => ?_⟩
  obtain ⟨q, o⟩ := r.un
  obtain ⟨t, b, ty, hb, hp⟩ := gIsi_inv hx s.e2 o
  exact ⟨v, c, t, u, b, rfl, hk, ty, hb, (k.after s).val s.e2 hp (.bl _)⟩
/-- the class's name: an own class, a built-in one -/
theorem pe_own {y : Str} {C : Addr} {p : Pos} (hm : X.mg y = some (.ref C)) (hg : Gl X y := by rfl) (hd : (y == ("__debug__" : Str)) = false := by decide) : PE X (.Name y p) (tC (.ref C)) := pe_glob hg hm rfl hd
theorem pe_typ {y : Str} {t : String} {p : Pos} (hm : X.mg y = none) (hv : bootBuiltins y = some (.type t)) (hg : Gl X y := by rfl) (hn : y ≠ "__name__" := by decide) (hd : (y == ("__debug__" : Str)) = false := by decide) : PE X (.Name y p) (tC (.ty t)) := pe_bltn hg hm hv rfl hn hd
/-- one way or the other -/
def tOr2 (t1 t2 : TE) : TE := fun σ H Q => t1 σ H Q ∨ t2 σ H Q
theorem pd_or2 {t1 t2 : TE} {T1 T2 : DE} (h1 : PEd X e t1 T1) (h2 : PEd X e t2 T2) : PEd X e (tOr2 t1 t2) (fun δ P => T1 δ P ∨ T2 δ P) :=
  ⟨⟨fun pins s σ H Q I h => h.elim (h1.p.run pins s σ H Q I) (h2.p.run pins s σ H Q I)⟩, fun δ P hT H0 H1 σ Q e env k => hT.elim (fun z => .inl (h1.s δ P z H0 H1 σ Q e env k)) fun z => .inr (h2.s δ P z H0 H1 σ Q e env k)⟩
end

/-! ### instances made -/
def hide (H : Hp) (x : Addr) : Hp := fun a => if a = x then none else H a
theorem hide_same {H : Hp} {x : Addr} : Same (hide H x) H := fun a o h => by
  unfold hide at h
  split at h
  · cases h
  · exact h
theorem hide_at {H : Hp} {x : Addr} : hide H x x = none := if_pos rfl
theorem hide_ne {H : Hp} {x a : Addr} (h : a ≠ x) : hide H x a = H a := if_neg h
/-- the promise of a class's __init__ -/
def spI (K : PySem.W.Frag) (C : Addr) (n : Nat) (G : GD) : Sp := fun vs H Q _ => ∃ x dx ws ds P H0, vs = .ref x :: ws ∧ ws.length = n ∧ H x = some (.ins C dx []) ∧ H0 x = none ∧ Same H0 H ∧ RepL K H0 ws ds ∧ G ds P ∧
  ∀ d G0 G', P d → Step H0 (hide H x) G0 G' → Res K (hide H x) G0 G' (.ref x) d → Q .non G'
section
variable {X : Cx} {pos : Pos} {e : Expr} {es : List Expr} {tr : DA} {ur : TA}
theorem same_hide {H0 H : Hp} {x : Addr} (e : Same H0 H) (h : H0 x = none) : Same H0 (hide H x) := fun a o q => by
  rw [hide_ne fun z => by rw [z, h] at q; cases q]
  exact e a o q
theorem snd_make {K : PySem.W.Frag} {C : Addr} {n : Nat} {G : GD} (hn : ∀ ds P, G ds P → ds.length = n) (hs : SndA K ur tr) : SndE K (tMake C (spI K C n G) [] E0 ur) (dCall G tr) := fun δ P hT H0 H1 σ Q e env k => hs δ _ hT H0 H1 σ _ e env fun vs ds G0 G1 hx s al => by
  have r := al.rep hx.1
  intro x dx nx ndx ne
  have nx0 : G0 x = none := s.e2.free nx
  have e1 : Same G1 (upd (upd G1 dx (.own x)) x (.ins C dx [])) := (same_new ndx).trans (same_new (by rw [upd_ne (Ne.symm ne)]; exact nx))
  have e2 : Same G1 (hide (upd (upd G1 dx (.own x)) x (.ins C dx [])) x) := same_hide e1 nx
  refine ⟨x, dx, vs, ds, P, G0, by rw [List.append_nil], r.len.trans (hn _ _ hx.2), upd_same, nx0, s.e2.trans e1, r, hx.2, fun d I0 I hp s2 rr => ⟨rfl, ?_⟩⟩
  exact (k.after s) _ d I0 I hp ⟨e2.trans s2.e1, s2.e0, s2.e2, fun a o q n => e2.free (s2.fr a o q n)⟩ (rr.back e2)
/-- C(..) -/
theorem pd_make {x : Str} {p : Pos} {C f : Addr} {fd : FuncData} {k n : Nat} {ps : List Str} {G : GD} (M : Mk X.K C f) (F : FnOk X.prog X.w X.K X.mg X.base CX0 k f fd ps (spI X.K C n G)) (hr : Room (k + 1) X.A) (hm : X.mg x = some (.ref C)) (hb : Binds X.K fd ps []) (hn : ∀ ds P, G ds P → ds.length = n)
    (ha : PAd X (e :: es) ur tr) (hg : Gl X x := by rfl) (hdb : (x == ("__debug__" : Str)) = false := by decide) (he : starEach (e :: es) X.env = (false, eval e X.env) :: starEach es X.env := by rfl) (hpl : (backTo pos (starEach es X.env)).any (·.1) = false := by rfl) :
    PEd X (.Call (.Name x p) (e :: es) [] pos) (tMake C (spI X.K C n G) [] E0 ur) (dCall G tr) := ⟨pe_make M F hr hg hm hb .nil pass0 ha.p hdb he hpl, snd_make hn ha.s⟩

/-! ### the ways in -/
/-- slots of plain values alone -/
structure EnvP (K : PySem.W.Frag) (H0 : Hp) (δ : List DV) (σ : L2.St) : Prop where
  at_ : ∀ (i : Nat) (d : D), (δ[i]?).bind DV.see = some d → ∃ v, σ[i]? = some (some v) ∧ Rep K H0 v d
  len : δ.length = σ.length
theorem EnvP.to {K : PySem.W.Frag} {H0 G0 : Hp} {δ : List DV} {σ : L2.St} (h : EnvP K H0 δ σ) (e : Same H0 G0) : EnvP K G0 δ σ := ⟨fun i d q => by
  obtain ⟨v, a, b⟩ := h.at_ i d q
  exact ⟨v, a, b.to e⟩, h.len⟩
theorem EnvP.env {K : PySem.W.Frag} {H0 H : Hp} {δ : List DV} {σ : L2.St} (h : EnvP K H0 δ σ) : EnvE K H0 H δ σ := ⟨fun i d q => by
  obtain ⟨v, a, b⟩ := h.at_ i d q
  exact ⟨v, [], a, .one (.leaf b)⟩, h.len⟩
/-- the new instance at x, its fields so far, the arguments -/
structure InI (K : PySem.W.Frag) (C : Addr) (B He H0 : Hp) (δ : List DV) (σ : L2.St) (H : Hp) (x : Addr) (gs : List (Str × D)) : Prop where
  st : Step He B H0 H
  env : EnvP K H0 δ σ
  me : σ[0]? = some (some (.ref x))
  obj : ∃ dx fs p, H x = some (.ins C dx fs) ∧ OwnF K H0 H p fs gs ∧ Fresh H0 B (x :: p)
theorem OwnF.len {K : PySem.W.Frag} {H0 H : Hp} : ∀ {p : List Addr} {fs : List (Str × V)} {gs : List (Str × D)}, OwnF K H0 H p fs gs → fs.length = gs.length
  | _, _, _, .nil => rfl
  | _, _, _, .cons _ t => congrArg (· + 1) t.len
theorem putF_new {f : Str} {v : V} : ∀ {fs : List (Str × V)}, fs.lookup f = none → putF f v fs = fs ++ [(f, v)]
  | [], _ => rfl
  | (g, w) :: r, h => by
    rw [List.lookup_cons] at h
    cases q : f == g with
    | true => rw [q] at h; cases h
    | false =>
      rw [q] at h
      have ne : ¬ g = f := fun z => by rw [z] at q; simp at q
      show (if g = f then _ else _) = _
      rw [if_neg ne, putF_new h] <;> rfl
theorem OwnF.snoc {K : PySem.W.Frag} {H0 H : Hp} {f : Str} {v : V} {d : D} {q : List Addr} (o : Own1 K H0 H q v d) : ∀ {p : List Addr} {fs : List (Str × V)} {gs : List (Str × D)}, OwnF K H0 H p fs gs → OwnF K H0 H (p ++ q) (fs ++ [(f, v)]) (gs ++ [(f, d)])
  | _, _, _, .nil => by
    have z := OwnF.cons (x := f) o .nil
    rw [List.append_nil] at z
    exact z
  | _, _, _, .cons a t => by
    rw [List.append_assoc]
    exact .cons a (t.snoc o)
/-- may stand in a field -/
def fldD (x : D) (P : D → Prop) : Prop := match x with
  | .mv (.olst ds) => P (.olst ds)
  | .mv (.oll dss) => P (.oll dss)
  | x => x.plain = true ∧ P x
theorem fldD_inv {x : D} {P : D → Prop} (h : fldD x P) : (∃ d, x = .mv d ∧ (∀ C gs, d ≠ .oobj C gs) ∧ P d) ∨ (x.plain = true ∧ P x) := by
  unfold fldD at h
  split at h
  · exact .inl ⟨_, rfl, fun C gs => (nomatch ·), h⟩
  · exact .inl ⟨_, rfl, fun C gs => (nomatch ·), h⟩
  · exact .inr h
section
variable {C : Addr} {B He H0 H : Hp} {δ : List DV} {σ : L2.St} {x : Addr} {gs : List (Str × D)} {D' : Ends}
/-- self.f = e -/
theorem ini_fld {K : PySem.W.Frag} {f : Str} {te : TE} {T : DE} {P : D → Prop} (h : InI K C B He H0 δ σ H x gs) (hs : SndE K te T) (hT : T δ fun d => fldD d P) (ok : FldOk K C f) (hl : gs.lookup f = none) (hz : gs.length ≤ 100)
    (k : ∀ d G0 G, P d → InI K C B He G0 δ σ G x (gs ++ [(f, d)]) → D'.nx σ G) : sFld K (tVar 0) te f D' σ H := by
  refine hs δ _ hT H0 H σ _ h.st.e2 h.env.env fun v y G0 G hy s r => ?_
  obtain ⟨dx, fs, p, ho, hf, fr⟩ := h.obj
  have hoG := s.e1 _ _ ho
  have frG : ∀ a ∈ x :: p, G0 a = none := fun a ha => by
    cases q : G0 a with
    | none => rfl
    | some o =>
      obtain ⟨u, hu⟩ := (Own.oobj ho hf).there a ha
      have z := s.fr a o q (fr.2 a ha).1
      rw [hu] at z
      cases z
  have hfG : OwnF K G0 G p fs gs := hf.mono s.e0 (keepO s.e1)
  have xp : x ∉ p := (List.nodup_cons.mp fr.1).1
  have st2 : Step He B G0 G := h.st.trans s
  have put : ∀ (d : D) (q : List Addr), Own1 K G0 G q v d → Fresh G0 H q → P d → D'.nx σ (upd G x (.ins C dx (putF f v fs))) := fun d q o fq hp => by
    have xq : x ∉ q := fun z => by
      have w := (fq.2 x z).2
      rw [ho] at w
      cases w
    have disj : ∀ a ∈ p, a ∉ q := fun a ha z => by
      obtain ⟨u, hu⟩ := hf.there a ha
      rw [(fq.2 a z).2] at hu
      cases hu
    have keep : ∀ r : List Addr, x ∉ r → KeepO r G (upd G x (.ins C dx (putF f v fs))) := fun r hr a ha o ho => by
      rw [upd_ne fun z => hr (by rw [← z]; exact ha)]
      exact ho
    have nx0 : G0 x = none := frG x List.mem_cons_self
    refine k d G0 _ hp ⟨⟨fun a o q => ?_, st2.e0, fun a o q => ?_, st2.fr⟩, h.env.to s.e0, h.me, dx, _, p ++ q, upd_same, ?_, ?_⟩
    · rw [upd_ne fun z => by rw [z, (fr.2 x List.mem_cons_self).2] at q; cases q]
      exact st2.e1 a o q
    · rw [upd_ne fun z => by rw [z, nx0] at q; cases q]
      exact s.e2 a o q
    · have z := (hfG.mono (Same.refl _) (keep p xp)).snoc (f := f) (o.mono (Same.refl _) (keep q xq))
      rw [← putF_new (hf.none hl)] at z
      exact z
    · refine ⟨?_, fun a ha => ?_⟩
      · rw [← List.cons_append]
        refine List.nodup_append.mpr ⟨fr.1, fq.1, fun a ha b hb z => ?_⟩
        subst z
        rcases List.mem_cons.mp ha with z | z
        · exact xq (by rw [← z]; exact hb)
        · exact disj a z hb
      · rw [← List.cons_append] at ha
        rcases List.mem_append.mp ha with z | z
        · exact ⟨frG a z, (fr.2 a z).2⟩
        · exact ⟨(fq.2 a z).1, h.st.e1.free (fq.2 a z).2⟩
  have fin : ∀ (d : D) (q : List Addr), Own1 K G0 G q v d → Fresh G0 H q → P d → tVar 0 σ G fun z H2 => ∃ a C' dx fs, z = .ref a ∧ H2 a = some (.ins C' dx fs) ∧ Cls K C' ∧ NoAttr K C' f ∧ fs.length < 1000 ∧ D'.nx σ (upd H2 a (.ins C' dx (putF f v fs))) := fun d q o fq hp =>
    ⟨.ref x, h.me, x, C, dx, fs, rfl, hoG, ok.cls, ok.no, by rw [hf.len]; omega, put d q o fq hp⟩
  rcases fldD_inv hy with ⟨d, rfl, hno, hp⟩ | ⟨hpl, hp⟩
  · obtain ⟨q, o, fq⟩ := r
    cases o with
    | one o1 => exact fin d q o1 fq hp
    | oobj _ _ => exact absurd rfl (hno _ _)
  · exact fin y [] (.leaf (r.rep_of hpl)) ⟨List.nodup_nil, fun a ha => absurd ha List.not_mem_nil⟩ hp
/-- an if that is not taken -/
theorem ini_if {K : PySem.W.Frag} {tt : TT} {T : DT} {t1 : TS} (h : InI K C B He H0 δ σ H x gs) (hs : SndT K tt T) (hT : T δ fun b => b = false) (k : ∀ G, InI K C B He H0 δ σ G x gs → D'.nx σ G) : tIfS tt t1 tNext D' σ H := by
  refine hs δ _ hT H0 H σ _ h.st.e2 h.env.env fun b G hb s => ?_
  rw [hb, if_neg Bool.false_ne_true]
  refine k G ⟨⟨h.st.e1.trans s, h.st.e0, h.st.e2.trans s, h.st.fr⟩, h.env, h.me, ?_⟩
  obtain ⟨dx, fs, p, ho, hf, fr⟩ := h.obj
  exact ⟨dx, fs, p, s _ _ ho, hf.mono (Same.refl _) (keepO s), fr⟩
/-- the end -/
theorem InI.res {K : PySem.W.Frag} (h : InI K C B He H0 δ σ H x gs) : Res K B H0 H (.ref x) (.mv (.oobj C gs)) := by
  obtain ⟨dx, fs, p, ho, hf, fr⟩ := h.obj
  exact ⟨_, .oobj ho hf, fr⟩
theorem ini_start {K : PySem.W.Frag} {dx : Addr} {ws : List V} {ds : List D} {N : List Str} (ho : H x = some (.ins C dx [])) (hx : H0 x = none) (e : Same H0 H) (r : RepL K H0 ws ds) : InI K C (hide H x) H0 H0 (DV.no :: δof (N.length - 1) ds) (L2.start N (.ref x :: ws)) H x [] := by
  refine ⟨⟨hide_same, Same.refl _, e, fun a o q n => by rw [n] at q; cases q⟩, ⟨fun i d q => ?_, ?_⟩, rfl, dx, [], [], ho, .nil, List.nodup_cons.mpr ⟨List.not_mem_nil, List.nodup_nil⟩, fun a ha => ?_⟩
  · cases i with
    | zero => cases q
    | succ i =>
      have q : ((δof (N.length - 1) ds)[i]?).bind DV.see = some d := q
      unfold δof at q
      by_cases c : i < ds.length
      · rw [List.getElem?_append_left (by rw [List.length_map]; exact c), List.getElem?_map, List.getElem?_eq_getElem c] at q
        have ed : ds[i] = d := Option.some.inj q
        obtain ⟨v, hv, rv⟩ := r.at (List.getElem?_eq_getElem c)
        rw [ed] at rv
        refine ⟨v, ?_, rv⟩
        show (ws.map some ++ _)[i]? = _
        rw [List.getElem?_append_left (by rw [List.length_map]; exact lt_of_get hv), List.getElem?_map, hv] <;> rfl
      · rw [List.getElem?_append_right (by rw [List.length_map]; omega), List.getElem?_replicate] at q
        split at q <;> cases q
  · unfold δof L2.start
    rw [List.length_cons, List.length_append, List.length_append, List.length_map, List.length_map, List.length_replicate, List.length_replicate, List.length_cons, ← r.len]
    omega
  · rcases List.mem_cons.mp ha with z | z
    · rw [z]
      exact ⟨hx, hide_at⟩
    · cases z
end
/-- an __init__ keeps its promise -/
theorem fn_ini {P : Program} {w : World} {K : PySem.W.Frag} {mg : Str → Option Value} {base : Heap} {x qual : Str} {params : Arguments} {body : List Stmt} {scope : Scope} {f C : Addr} {fd : FuncData} {N ps : List Str} {k n : Nat} {G : GD} (F : FunD K x qual params body scope [] [] f fd) (S : FnScope N ps scope) (hn : ps.length = n + 1)
    (hb : ∀ (cdv : Value) (A : Around) (outer : List Env) (s : Shared) (H0 H B : Hp) (x : Addr) (ds : List D) (R : D → Prop) (D' : Ends) (σ : L2.St), Room k (A.deeper (envOfC qual scope s.heap.objs.size f cdv)) → G ds R → InI K C B H0 H0 (DV.no :: δof (N.length - 1) ds) σ H x [] →
      (∀ gs G0 σ G, R (.mv (.oobj C gs)) → InI K C B H0 G0 (DV.no :: δof (N.length - 1) ds) σ G x gs → D'.nx σ G) → ∃ t, PSs (Cxd P w K mg base N qual scope f cdv A outer s H) body t ∧ t D' σ H) : FnOk P w K mg base CX0 (k + 1) f fd ps (spI K C n G) := by
  refine F.ok S (fun vs H Q E h => ?_) fun cdv A outer s H vs Q E hr h => ?_
  · obtain ⟨_, _, ws, _, _, _, rfl, hl, _⟩ := h
    rw [List.length_cons, hl, hn]
  · obtain ⟨x, dx, ws, ds, R, H0, rfl, hl, ho, hx, e, r, hG, kt⟩ := h
    obtain ⟨t, h1, h2⟩ := hb cdv A outer s H0 H (hide H x) x ds R { nx := fun _ H' => Q .non H', rt := Q } (L2.start N (.ref x :: ws)) hr hG (ini_start ho hx e r) fun gs G0 σ G hR I => kt _ G0 G hR I.st I.res
    exact ⟨t, PSs.nox h1, h2⟩
end
end J
/-! J11: small things for the printed proofs -/
namespace J
open PySem PySem.Spec PyProof.Rows L2

def dNev : DS := fun _ _ => False
def dNeg (ta : DE) : DE := fun δ P => ta δ fun x => asI x fun i => P (.int (-i))
section
variable {X : Cx} {B He : Hp} {st : Stmt} {pos : Pos} {a b : Expr} {ta tb : DE} {ua ub : TE}
theorem sd_nev : PSd X B He st dNev := sd_never
theorem pd_ng (ha : PEd X a ua ta) : PEd X (.UnaryOp .USub a pos) (tUn (rU fun i => .int (-i)) ua) (dNeg ta) := pd_neg ha
theorem pt_inD (hu : X.A.units + 1 < cLine) (ha : PEd X a ua ta) (hb : PEd X b ub tb) (hm : behindInMarks .In b = false := by rfl) : PTd X (.Compare a [.In] [b] pos) (tB (tDIn ua ub)) (dT (dOp gInD ta tb)) :=
  ⟨pt_cmp (pc_din hu ha.p hb.p) hm, fun δ P hT H0 H1 σ Q e env k => snd_inD ha.s hb.s δ _ hT H0 H1 σ _ e env fun v x G0 G hx s r => by
    obtain ⟨b, rfl, hp⟩ := asB_inv hx
    exact ⟨b, res_bl r, k b G hp s.e1⟩⟩
theorem hu1 {A : Around} {k : Nat} (hr : Room k A) : A.units + 1 < cLine := hu_of hr
theorem hu64 {A : Around} {k : Nat} (hr : Room k A) : A.units + 64 < cLine := hr.units
theorem hu65 {A : Around} {k : Nat} (hr : Room k A) : A.units + 65 < cLine := by have := hr.un; omega
end
/-- a def of the program, as its callers see it -/
structure Def (P : Program) (w : World) (K : PySem.W.Frag) (mg : Str → Option Value) (base : Heap) (x : Str) (k n : Nat) (G : GD) : Prop where
  ex : ∃ f fd ps, FnOk P w K mg base CX0 k f fd ps (spD K n G) ∧ mg x = some (.ref f) ∧ PySem.W.keepIn K (.ref f) = true ∧ Binds K fd ps []
/-- a method of the class at C -/
structure MDef (P : Program) (w : World) (K : PySem.W.Frag) (mg : Str → Option Value) (base : Heap) (C : Addr) (x : Str) (k n : Nat) (G : GD) : Prop where
  ex : ∃ f fd ps, FnOk P w K mg base CX0 k f fd ps (spD K n G) ∧ Meth K C x f ∧ Binds K fd ps []
/-- a class whose instances are made -/
structure CDef (P : Program) (w : World) (K : PySem.W.Frag) (mg : Str → Option Value) (base : Heap) (C : Addr) (x : Str) (k n : Nat) (G : GD) : Prop where
  ex : ∃ f fd ps, FnOk P w K mg base CX0 k f fd ps (spI K C n G) ∧ mg x = some (.ref C) ∧ Mk K C f ∧ Binds K fd ps []
section
variable {X : Cx} {pos : Pos} {e o : Expr} {es : List Expr} {tr : DA} {ur : TA} {to : DE} {uo : TE}
theorem pd_def {x : Str} {p : Pos} {k n : Nat} {G : GD} (d : Def X.prog X.w X.K X.mg X.base x k n G) (hn : ∀ ds P, G ds P → ds.length = n) (hr : Room k X.A)
    (ha : PAd X (e :: es) ur tr) (hg : Gl X x := by rfl) (hdb : (x == ("__debug__" : Str)) = false := by decide) (he : starEach (e :: es) X.env = (false, eval e X.env) :: starEach es X.env := by rfl) (hpl : (backTo pos (starEach es X.env)).any (·.1) = false := by rfl) :
    PEd X (.Call (.Name x p) (e :: es) [] pos) (tCall (spD X.K n G) [] E0 ur) (dCall G tr) := by
  obtain ⟨f, fd, ps, F, m, kp, b⟩ := d.ex
  exact pd_call F hr m kp b hn ha hg hdb he hpl
theorem pd_defB {x : Str} {p : Pos} {k n : Nat} {G : GD} (d : Def X.prog X.w X.K X.mg X.base x k n G) (hn : ∀ ds P, G ds P → ds.length = n) (hr : Room k X.A)
    (ha : PAd X (e :: es) ur tr) (hg : Gl X x := by rfl) (hdb : (x == ("__debug__" : Str)) = false := by decide) (he : starEach (e :: es) X.env = (false, eval e X.env) :: starEach es X.env := by rfl) (hpl : (backTo pos (starEach es X.env)).any (·.1) = false := by rfl) :
    PEd X (.Call (.Name x p) (e :: es) [] pos) (tCall (spD X.K n G) [] E0 ur) (dCallB G tr) := by
  obtain ⟨f, fd, ps, F, m, kp, b⟩ := d.ex
  exact pd_callB F hr m kp b hn ha hg hdb he hpl
theorem pd_mdef {x : Str} {p : Pos} {k n : Nat} {G : GD} {C : Addr} {pl : Sem Bool} (cl : Cls X.K C) (d : MDef X.prog X.w X.K X.mg X.base C x k n G) (hn : ∀ ds P, G ds P → ds.length = n) (hr : Room k X.A) (ho : PEd X o uo to)
    (ha : PAd X (e :: es) ur tr) (hst : starEach (e :: es) X.env = (false, eval e X.env) :: starEach es X.env := by rfl) (hpl : (backTo pos (starEach es X.env)).any (·.1) = false := by rfl)
    (ht : eval (.Call (.Attribute o x p) (e :: es) [] pos) X.env = (do
      let ov ← eval o X.env
      standAt p.atName
      let (f, first) ← holding [ov] (getMethod ov x pl)
      callWith pos f first (backTo pos (starEach (e :: es) X.env)) (backToKw pos (keywordEach [] X.env))) := by rfl) :
    PEd X (.Call (.Attribute o x p) (e :: es) [] pos) (tMeth C x (spD X.K n G) [] E0 uo ur) (dMeth C x G to tr) := by
  obtain ⟨f, fd, ps, F, m, b⟩ := d.ex
  exact ⟨pe_meth ho.p cl m F hr b .nil pass0 ha.p hst hpl ht, snd_meth hn ho.s ha.s⟩
theorem pd_mdefB {x : Str} {p : Pos} {k n : Nat} {G : GD} {C : Addr} {pl : Sem Bool} (cl : Cls X.K C) (d : MDef X.prog X.w X.K X.mg X.base C x k n G) (hn : ∀ ds P, G ds P → ds.length = n) (hr : Room k X.A) (ho : PEd X o uo to)
    (ha : PAd X (e :: es) ur tr) (hst : starEach (e :: es) X.env = (false, eval e X.env) :: starEach es X.env := by rfl) (hpl : (backTo pos (starEach es X.env)).any (·.1) = false := by rfl)
    (ht : eval (.Call (.Attribute o x p) (e :: es) [] pos) X.env = (do
      let ov ← eval o X.env
      standAt p.atName
      let (f, first) ← holding [ov] (getMethod ov x pl)
      callWith pos f first (backTo pos (starEach (e :: es) X.env)) (backToKw pos (keywordEach [] X.env))) := by rfl) :
    PEd X (.Call (.Attribute o x p) (e :: es) [] pos) (tMeth C x (spD X.K n G) [] E0 uo ur) (dMethB C x G to tr) := by
  obtain ⟨f, fd, ps, F, m, b⟩ := d.ex
  exact ⟨pe_meth ho.p cl m F hr b .nil pass0 ha.p hst hpl ht, snd_methB hn ho.s ha.s⟩
theorem pd_cdef {x : Str} {p : Pos} {k n : Nat} {G : GD} {C : Addr} (d : CDef X.prog X.w X.K X.mg X.base C x k n G) (hn : ∀ ds P, G ds P → ds.length = n) (hr : Room (k + 1) X.A)
    (ha : PAd X (e :: es) ur tr) (hg : Gl X x := by rfl) (hdb : (x == ("__debug__" : Str)) = false := by decide) (he : starEach (e :: es) X.env = (false, eval e X.env) :: starEach es X.env := by rfl) (hpl : (backTo pos (starEach es X.env)).any (·.1) = false := by rfl) :
    PEd X (.Call (.Name x p) (e :: es) [] pos) (tMake C (spI X.K C n G) [] E0 ur) (dCall G tr) := by
  obtain ⟨f, fd, ps, F, m, M, b⟩ := d.ex
  exact pd_make M F hr m b hn ha hg hdb he hpl
end
/-! ### what is told of the program -/
/-- the instance of Minds -/
def pD (p : Int × Int) : D := .tup [.int p.1, .int p.2]
def mD (C : Addr) (n : Int) (ps : List (Int × Int)) : D := .obj C [("kinds", .int n), ("kept", .lst (ps.map pD)), ("table", .dct ps)]
abbrev rD (xs : List Int) : D := .lst (xs.map .int)
end J
/-! J12: longer chains, xs[::2], list(range), sets, count, index -/
namespace J
open PySem PySem.Spec PyProof.Rows L2

section
variable {X : Cx} {B He : Hp} {pos : Pos} {a b c d e : Expr} {ta tb tc td : DE} {ua ub uc ud : TE}
/-! ### a < b < c < d -/
def tCh3 (r1 r2 r3 : R2) (ta tb tc td : TE) : TE := fun σ H Q => ta σ H fun x H1 => tb σ H1 fun y H2 => r1 x y H2 fun z H3 => ∃ k, z = .bl k ∧
  (if k = true then tc σ H3 fun u H4 => r2 y u H4 fun z2 H5 => ∃ k2, z2 = .bl k2 ∧ (if k2 = true then td σ H5 fun v H6 => r3 u v H6 Q else Q (.bl false) H5) else Q (.bl false) H3)
theorem pe_ch3 {o1 o2 o3 : CmpOp} {r1 r2 r3 : R2} (h1 : OpR X (compareOp o1) r1) (h2 : OpR X (compareOp o2) r2) (h3 : OpR X (compareOp o3) r3) (ha : PE X a ua) (hb : PE X b ub) (hc : PE X c uc) (hd : PE X d ud)
    (hm : lastMarks [o1, o2, o3] [b, c, d] = false := by with_unfolding_all rfl) : PE X (.Compare a [o1, o2, o3] [b, c, d] pos) (tCh3 r1 r2 r3 ua ub uc ud) := by
  constructor
  intro pins s σ H Q I h
  apply Compare_chain (hm := hm)
  refine thn (ha.run pins s σ H _ I h) fun v s1 ⟨x, H1, I1, q1, q⟩ => ?_
  apply chain_link
  refine thn (hb.run pins s1 σ H1 _ I1 q) fun u s2 ⟨y, H2, I2, q2, q⟩ => ?_
  refine thn (h1 pins s2 σ H2 x y v u _ I2 q1 q2 q) fun t s3 ⟨z, H3, I3, q3, k, e, q⟩ => ?_
  subst e
  cases q3
  apply wpAny_truthy_bool
  cases k with
  | false => exact ite_ff ⟨.bl false, H3, I3, rfl, q⟩
  | true =>
    apply ite_tt
    apply chain_link
    refine thn (hc.run pins s3 σ H3 _ I3 q) fun u2 s4 ⟨y2, H4, I4, q4, q⟩ => ?_
    refine thn (h2 pins s4 σ H4 y y2 u u2 _ I4 q2 q4 q) fun t s5 ⟨z, H5, I5, q5, k, e, q⟩ => ?_
    subst e
    cases q5
    apply wpAny_truthy_bool
    cases k with
    | false => exact ite_ff ⟨.bl false, H5, I5, rfl, q⟩
    | true =>
      apply ite_tt
      apply chain_last
      refine thn (hd.run pins s5 σ H5 _ I5 q) fun u3 s6 ⟨y3, H6, I6, q6, q⟩ => ?_
      exact h3 pins s6 σ H6 y2 y3 u2 u3 Q I6 q4 q6 q
def dCh3 (g1 g2 g3 : D → D → (D → Prop) → Prop) (ta tb tc td : DE) : DE := fun δ P => ta δ fun x => tb δ fun y => g1 x.un y.un fun z => asB z fun b => match b with
  | true => tc δ fun u => g2 y.un u.un fun z => asB z fun b => match b with
    | true => td δ fun v => g3 u.un v.un P
    | false => P (.bl false)
  | false => P (.bl false)
theorem pd_ch3 {o1 o2 o3 : CmpOp} {r1 r2 r3 : R2} {g1 g2 g3 : D → D → (D → Prop) → Prop} (h1 : OpR X (compareOp o1) r1) (h2 : OpR X (compareOp o2) r2) (h3 : OpR X (compareOp o3) r3) (k1 : OpD X.K r1 g1) (k2 : OpD X.K r2 g2) (k3 : OpD X.K r3 g3)
    (ha : PEd X a ua ta) (hb : PEd X b ub tb) (hc : PEd X c uc tc) (hd : PEd X d ud td) (hm : lastMarks [o1, o2, o3] [b, c, d] = false := by with_unfolding_all rfl) : PEd X (.Compare a [o1, o2, o3] [b, c, d] pos) (tCh3 r1 r2 r3 ua ub uc ud) (dCh3 g1 g2 g3 ta tb tc td) := by
  obtain ⟨a1, a2⟩ := ha
  obtain ⟨b1, b2⟩ := hb
  obtain ⟨c1, c2⟩ := hc
  obtain ⟨e1, e2⟩ := hd
  refine ⟨pe_ch3 h1 h2 h3 a1 b1 c1 e1 hm, fun δ P hT H0 H1 σ Q e env k => ?_⟩
  refine a2 δ _ hT H0 H1 σ _ e env fun v x G0 G hx s r1 => ?_
  refine b2 δ _ hx G0 G σ _ s.e2 (env.to s.e0 s.e1) fun w y I0 I hy s2 r2 => ?_
  obtain ⟨p, o1⟩ := (r1.to s2).un
  obtain ⟨q, o2⟩ := r2.un
  refine k1 _ _ _ hy v w I0 I p q _ s2.e2 o1 o2 fun u d J0 J hd s3 r3 => ?_
  obtain ⟨b, rfl, hp⟩ := asB_inv hd
  refine ⟨b, res_bl r3, ?_⟩
  have s4 := (s.trans s2).trans s3
  cases b with
  | false =>
    rw [if_neg Bool.false_ne_true]
    exact (k.after s4).val s3.e2 hp (.bl _)
  | true =>
    rw [if_pos rfl]
    refine c2 δ _ hp J0 J σ _ s3.e2 (env.to s4.e0 s4.e1) fun u2 d2 L0 L hd2 s5 r5 => ?_
    obtain ⟨q3, o3⟩ := r5.un
    refine k2 _ _ _ hd2 w u2 L0 L q q3 _ s5.e2 ((o2.to s3.e0 s3.e1).to s5.e0 s5.e1) o3 fun u d J0 J hd s6 r6 => ?_
    obtain ⟨b, rfl, hp⟩ := asB_inv hd
    refine ⟨b, res_bl r6, ?_⟩
    have s7 := (s4.trans s5).trans s6
    cases b with
    | false =>
      rw [if_neg Bool.false_ne_true]
      exact (k.after s7).val s6.e2 hp (.bl _)
    | true =>
      rw [if_pos rfl]
      refine e2 δ _ hp J0 J σ _ s6.e2 (env.to s7.e0 s7.e1) fun u3 d3 L0 L hd3 s8 r8 => ?_
      obtain ⟨q4, o4⟩ := r8.un
      exact k3 _ _ _ hd3 u2 u3 L0 L q3 q4 Q s8.e2 ((o3.to s6.e0 s6.e1).to s8.e0 s8.e1) o4 (k.after (s7.trans s8))

/-! ### xs[::2] -/
/-- some of the items, one by one -/
def pick {α : Type} (xs : List α) (is : List Nat) : List α := is.filterMap fun i => xs[i]?
def tTwo (K : PySem.W.Frag) (te : TE) : TE := fun σ H Q => te σ H fun x H1 => ∃ a xs, x = .ref a ∧ SqL K H1 a xs ∧ ∀ is p, is.length ≤ xs.length → H1 p = none → Q (.ref p) (upd H1 p (.lst (pick xs is)))
theorem pick_vals {xs : List V} {us : List Value} (h : Vals xs us) : ∀ is : List Nat, Vals (pick xs is) (pick us is)
  | [] => .nil
  | i :: is => by
    unfold pick
    rw [List.filterMap_cons, List.filterMap_cons]
    cases e : xs[i]? with
    | none =>
      have e2 : us[i]? = none := by
        rw [List.getElem?_eq_none_iff] at e ⊢
        rw [← h.length]
        exact e
      rw [e2]
      exact pick_vals h is
    | some x =>
      have lt : i < us.length := by
        rw [← h.length]
        exact (List.getElem?_eq_some_iff.mp e).1
      rw [List.getElem?_eq_getElem lt]
      obtain ⟨u, h1, h2⟩ := h.get e
      rw [List.getElem?_eq_getElem lt] at h1
      cases h1
      exact .cons h2 (pick_vals h is)
theorem two_few (n : Nat) : (sliceRange 0 (n : Int) 2).length ≤ n := by
  unfold sliceRange
  rw [List.length_map, List.length_range]
  split <;> first | (split <;> omega) | omega
theorem pe_two {k : Nat} {p1 p2 : Pos} (he : PE X e ua) : PE X (.Subscript e (.Slice none none (some (.Constant (.int 2) k p1)) p2) pos) (tTwo X.K ua) := by
  constructor
  intro pins s σ H Q I h
  apply Subscript_
  refine thn (he.run pins s σ H _ I h) fun v s1 ⟨x, H1, I1, r1, a, xs, ex, hx, q⟩ => ?_
  subst ex
  cases r1
  have two : PO X (some (.Constant (.int 2) k p1)) (tPart (tC (.int 2))) := po_some pe_int
  apply wpAny_Slice
  refine thn (po_none.run pins s1 σ H1 (fun o G => o = none ∧ G = H1) I1 ⟨rfl, rfl⟩) ?_
  rintro v1 s2 ⟨_, _, I2, pl, rfl, rfl⟩
  refine thn (po_none.run pins s2 σ _ (fun o G => o = none ∧ G = _) I2 ⟨rfl, rfl⟩) ?_
  rintro v2 s3 ⟨_, _, I3, pu, rfl, rfl⟩
  refine thn (two.run pins s3 σ _ (fun o G => o = some 2 ∧ G = _) I3 ⟨2, rfl, rfl, rfl⟩) ?_
  rintro v3 s4 ⟨_, H4, I4, ps, rfl, rfl⟩
  have I5 : Inv X pins σ H4 { s4 with heap := s4.heap.push { cls := .type "slice", data := .fields #[v1, v2, v3] } } := I4.kept (t' := s4.toks) fun b ob q => Heap.get?_push_of_some _ q
  obtain ⟨its, r, ht, hz⟩ := I5.list hx
  have len := r.length
  show wpAny (model X.prog X.w) X.A (subscriptTail e (.Slice none none (some (.Constant (.int 2) k p1)) p2) (.ref a) (.ref s4.heap.objs.size)) _ _ _
  apply tail_any (ops := [.ref a, .ref s4.heap.objs.size]) ht.isList.typeIs (PySem.slot_list_getitem.lookup) ?_ (by with_unfolding_all rfl)
  refine wpAny_getItem_list_slice ht.isList (Heap.IsSliceOf.new _ v1 v2 v3) pl pu ps (by decide) ?_ (by rw [List.size_toArray]; omega)
  have ep : slicePick its.toArray none none (some 2) = (pick its (sliceRange 0 (its.length : Int) 2)).toArray := by
    unfold slicePick pick
    have eb : sliceBounds none none (some 2) its.toArray.size = (0, (its.length : Int), 2) := by
      simp [sliceBounds]
    rw [eb]
    show (List.filterMap _ _).toArray = _
    congr 1
    simp
  rw [ep]
  have few : (sliceRange 0 (its.length : Int) 2).length ≤ xs.length := by
    have z := two_few its.length
    omega
  refine ⟨.ref _, _, I5.laid (t' := s4.toks) (o := .lst (pick xs (sliceRange 0 (its.length : Int) 2))) (fun b ob q => Heap.get?_push_of_some _ q) (Nat.le_refl _) ?_, rfl, q _ _ few (I5.hok.fresh (Nat.le_refl _))⟩
  refine ⟨?_, _, 0, pick_vals r _, Heap.get?_push_size _ rfl⟩
  have z : (pick xs (sliceRange 0 (its.length : Int) 2)).length ≤ (sliceRange 0 (its.length : Int) 2).length := List.length_filterMap_le _ _
  omega
theorem RepL.pick {K : PySem.W.Frag} {H : Hp} {vs : List V} {ds : List D} (h : RepL K H vs ds) : ∀ is : List Nat, RepL K H (J.pick vs is) (J.pick ds is)
  | [] => .nil
  | i :: is => by
    unfold J.pick
    rw [List.filterMap_cons, List.filterMap_cons]
    cases e : ds[i]? with
    | none =>
      have e2 : vs[i]? = none := by
        rw [List.getElem?_eq_none_iff] at e ⊢
        rw [h.len]
        exact e
      rw [e2]
      exact h.pick is
    | some x =>
      obtain ⟨v, e2, r⟩ := h.at e
      rw [e2]
      exact .cons r (h.pick is)
def dTwo (ta : DE) : DE := fun δ P => ta δ fun x => match x.un.items with
  | some ds => ∀ is : List Nat, is.length ≤ ds.length → P (.mv (.olst (pick ds is)))
  | none => False
theorem pd_two {k : Nat} {p1 p2 : Pos} (ha : PEd X e ua ta) : PEd X (.Subscript e (.Slice none none (some (.Constant (.int 2) k p1)) p2) pos) (tTwo X.K ua) (dTwo ta) := by
  obtain ⟨a1, a2⟩ := ha
  refine ⟨pe_two a1, fun δ P hT H0 H1 σ Q e env k => a2 δ _ hT H0 H1 σ _ e env fun v x G0 G hx s r => ?_⟩
  obtain ⟨p, o⟩ := r.un
  dsimp only at hx
  cases q : x.un.items with
  | none => rw [q] at hx; exact hx.elim
  | some ds =>
    rw [q] at hx
    obtain ⟨a, vs, rfl, h3, h4⟩ := o.items s.e2 q
    exact ⟨a, vs, rfl, h3, fun is p hl hp => (k.after s).lst s.e2 (hx is (by rw [← h4.len]; exact hl)) (h4.pick is) p hp⟩

/-! ### list(range(n)), list(range(m, n)) -/
def dLrg1 (ta : DE) : DE := fun δ P => ta δ fun x => asI x fun n => 0 ≤ n ∧ n ≤ 100000 ∧ P (.mv (.olst (rng 0 n.toNat)))
def dLrg2 (ta tb : DE) : DE := fun δ P => ta δ fun x => asI x fun m => tb δ fun y => asI y fun n => 0 ≤ m ∧ m ≤ 100000 ∧ 0 ≤ n ∧ n ≤ 100000 ∧ P (.mv (.olst (rng m (n - m).toNat)))
theorem rep_rg {K : PySem.W.Frag} {H : Hp} (m n : Int) : RepL K H (rgV m n) (rng m (n - m).toNat) := by
  have e1 : rgV m n = ((List.range (n - m).toNat).map fun (i : Nat) => m + (i : Int)).map V.int := by
    unfold rgV
    rw [List.map_map]
    rfl
  have e2 : rng m (n - m).toNat = ((List.range (n - m).toNat).map fun (i : Nat) => m + (i : Int)).map D.int := by
    unfold rng
    rw [List.map_map]
    rfl
  rw [e1, e2]
  exact .ofInts _
theorem pd_lrg1 {p p2 pos2 : Pos} (hc : X.calm = true) (hm : X.mg "list" = none) (hm2 : X.mg "range" = none) (ha : PEd X a ua ta) (hg : Gl X "list" := by rfl) (hg2 : Gl X "range" := by rfl) (na : starEach [a] X.env = (false, eval a X.env) :: starEach [] X.env := by rfl)
    (na2 : starEach [.Call (.Name "range" p2) [a] [] pos2] X.env = (false, eval (.Call (.Name "range" p2) [a] [] pos2) X.env) :: starEach [] X.env := by rfl) :
    PEd X (.Call (.Name "list" p) [.Call (.Name "range" p2) [a] [] pos2] [] pos) (tLstRg (tRg1 ua)) (dLrg1 ta) :=
  ⟨pe_listRg hc hg hm (prg_1 hg2 hm2 ha.p na) na2, fun δ P hT H0 H1 σ Q e env k => ha.s δ _ hT H0 H1 σ _ e env fun v x G0 G hx s r => by
    obtain ⟨n, rfl, h0, h1, hp⟩ := asI_inv hx
    refine ⟨n, res_int r, RgOk.of_le (by omega) (by omega) (by omega) h0, (k.after s).lst s.e2 hp ?_⟩
    have z := rep_rg (K := X.K) (H := G0) 0 n
    rw [Int.sub_zero] at z
    exact z⟩
theorem pd_lrg2 {p p2 pos2 : Pos} (hc : X.calm = true) (hm : X.mg "list" = none) (hm2 : X.mg "range" = none) (ha : PEd X a ua ta) (hb : PEd X b ub tb) (hg : Gl X "list" := by rfl) (hg2 : Gl X "range" := by rfl) (na : starEach [a, b] X.env = (false, eval a X.env) :: starEach [b] X.env := by rfl)
    (nb : starEach [b] X.env = (false, eval b X.env) :: starEach [] X.env := by rfl) (hp : (backTo pos2 (starEach [b] X.env)).any (·.1) = false := by rfl)
    (na2 : starEach [.Call (.Name "range" p2) [a, b] [] pos2] X.env = (false, eval (.Call (.Name "range" p2) [a, b] [] pos2) X.env) :: starEach [] X.env := by rfl) :
    PEd X (.Call (.Name "list" p) [.Call (.Name "range" p2) [a, b] [] pos2] [] pos) (tLstRg (tRg2 ua ub)) (dLrg2 ta tb) := by
  refine ⟨pe_listRg hc hg hm (prg_2 hg2 hm2 ha.p hb.p na nb hp) na2, fun δ P hT H0 H1 σ Q e env k => ha.s δ _ hT H0 H1 σ _ e env fun v x G0 G hx s r => ?_⟩
  obtain ⟨m, rfl, hx⟩ := asI_inv hx
  refine hb.s δ _ hx G0 G σ _ s.e2 (env.to s.e0 s.e1) fun w y I0 I hy s2 r2 => ?_
  obtain ⟨n, rfl, h0, h1, h2, h3, hp⟩ := asI_inv hy
  exact ⟨m, n, res_int r, res_int r2, RgOk.of_le h0 (by omega) (by omega) h2, (k.after (s.trans s2)).lst s2.e2 hp (rep_rg m n)⟩

/-! ### sorted(set(xs)), ints -/
def dSset (ta : DE) : DE := fun δ P => ta δ fun x => match x.un.ints with
  | some ns => ns.length ≤ 1000 ∧ ∀ xs : List Int, xs.Pairwise (· < ·) → (∀ k, k ∈ xs ↔ k ∈ ns) → P (.mv (.olst (xs.map .int)))
  | none => False
theorem pd_sset {p p2 q : Pos} (hc : X.calm = true) (hm : X.mg "sorted" = none) (hm2 : X.mg "set" = none) (ha : PEd X a ua ta) (hg : Gl X "sorted" := by rfl) (hg2 : Gl X "set" := by rfl) (na : starEach [a] X.env = (false, eval a X.env) :: starEach [] X.env := by rfl) :
    PEd X (.Call (.Name "sorted" p) [.Call (.Name "set" p2) [a] [] q] [] pos) (SLI.tSS X.K ua) (dSset ta) :=
  ⟨SLI.pe_ss hc hg hm hg2 hm2 ha.p na, fun δ P hT H0 H1 σ Q e env k => ha.s δ _ hT H0 H1 σ _ e env fun v x G0 G hx s r => by
    obtain ⟨p, o⟩ := r.un
    dsimp only at hx
    cases q : x.un.ints with
    | none => rw [q] at hx; exact hx.elim
    | some ns =>
      rw [q] at hx
      obtain ⟨a, rfl, h⟩ := o.ints s.e2 q
      exact ⟨a, ns, rfl, h, hx.1, fun xs p up mem hp => (k.after s).lst s.e2 (hx.2 xs up mem) (.ofInts xs) p hp⟩⟩

/-! ### xs.count(k), xs.index(k), ints -/
def g2I (f : List Int → Int → (D → Prop) → Prop) (x : D) (ds : List D) (P : D → Prop) : Prop := match x.ints, ds with
  | some ns, [.int k] => f ns k P
  | _, _ => False
theorem g2I_inv {f : List Int → Int → (D → Prop) → Prop} {x : D} {ds : List D} {P : D → Prop} (h : g2I f x ds P) : ∃ ns k, x.ints = some ns ∧ ds = [.int k] ∧ f ns k P := by
  unfold g2I at h
  split at h
  · exact ⟨_, _, ‹_›, rfl, h⟩
  · exact h.elim
def dCount (ta : DE) (tr : DA) : DE := fun δ P => ta δ fun x => x.un.ints ≠ none ∧ tr δ fun ds => g2I (fun ns k P => P (.int (ns.count k : Nat))) x.un ds P
def dIndex (ta : DE) (tr : DA) : DE := fun δ P => ta δ fun x => x.un.ints ≠ none ∧ tr δ fun ds => g2I (fun ns k P => k ∈ ns ∧ P (.int (ns.idxOf k : Nat))) x.un ds P
section
variable {ur : TA} {tr : DA}
theorem bm_run {K : PySem.W.Frag} {r : V → List V → Hp → VK → Prop} {f : List Int → Int → (D → Prop) → Prop} (hf : ∀ l H1 (ns : List Int) k P (Q : VK), SqL K H1 l (ns.map V.int) → f ns k P → (∀ j, P (.int j) → Q (.int j) H1) → r (.ref l) [.int k] H1 Q)
    (fP : ∀ ns k P, f ns k P → ∀ P' : D → Prop, (∀ j, P (.int j) → P' (.int j)) → f ns k P') (ha : SndE K ua ta) (hs : SndA K ur tr) {δ : List DV} {P : D → Prop} (hT : ta δ fun x => x.un.ints ≠ none ∧ tr δ fun ds => g2I f x.un ds P) {H0 H1 : Hp} {σ : L2.St} {Q : VK} (e : Same H0 H1) (env : EnvE K H0 H1 δ σ) (k : Kont K H0 H1 P Q) : tBM K "list" r ua ur σ H1 Q := by
  refine ha δ _ hT H0 H1 σ _ e env fun v x G0 G hx s r1 => ?_
  obtain ⟨p, o⟩ := r1.un
  obtain ⟨h0, h1⟩ := hx
  cases q : x.un.ints with
  | none => exact absurd q h0
  | some ns =>
    obtain ⟨a, rfl, h⟩ := o.ints s.e2 q
    refine ⟨.inl ⟨rfl, _, h⟩, hs δ _ h1 G0 G σ _ s.e2 (env.to s.e0 s.e1) fun vs ds I0 I hd s2 al => ?_⟩
    obtain ⟨_, j, e1, rfl, hp⟩ := g2I_inv hd
    rw [q] at e1
    cases e1
    obtain ⟨v, q, rfl, o2⟩ := al1 al
    rw [o2.int]
    exact hf _ _ _ j P Q (s2.e1.seq h) hp fun j hj => (k.after (s.trans s2)).val s2.e2 hj (.int j)
theorem pd_count {e2 : Expr} {apos cpos : Pos} (ha : PEd X a ua ta) (hr : PAd X [e2] ur tr) (hbase : attributeBase a "count" X.env (eval a X.env) = eval a X.env := by rfl) (hline : (apos.endLine == cpos.line) = true := by rfl)
    (hfew : ((backTo cpos (starEach [e2] X.env)).all (fun x => !x.1) && (backToKw cpos (keywordEach [] X.env)).all (fun x => x.1.isSome) && decide ([e2].length + ([] : List Keyword).length + (if ([] : List Keyword).isEmpty then 0 else 1) < 30)) = true := by rfl)
    (hs : starEach [e2] X.env = (false, eval e2 X.env) :: starEach [] X.env := by rfl) (hplain : (backTo cpos (starEach [] X.env)).any (·.1) = false := by rfl) :
    PEd X (.Call (.Attribute a "count" apos) [e2] [] cpos) (tBM X.K "list" (rCntI X.K) ua ur) (dCount ta tr) :=
  ⟨pe_bm PySem.F.plainAttrs_list PySem.F.slot_list_count PySem.F.type_list_count mt_lcount ha.p hr.p hbase hfew hline hs hplain, fun δ P hT H0 H1 σ Q e env k =>
    bm_run (f := fun ns k P => P (.int (ns.count k : Nat))) (fun l H1 ns k P Q h hp q => ⟨l, ns, k, rfl, rfl, h, q _ hp⟩) (fun ns k P h P' g => g _ h) ha.s hr.s hT e env k⟩
theorem idx_at {ns : List Int} {k : Int} (h : k ∈ ns) : ns[ns.idxOf k]? = some k ∧ ∀ (m : Nat) (z : Int), m < ns.idxOf k → ns[m]? = some z → z ≠ k := by
  have lt : ns.idxOf k < ns.length := List.idxOf_lt_length_iff.mpr h
  refine ⟨by rw [List.getElem?_eq_getElem lt, List.getElem_idxOf], fun m z hm hz e => ?_⟩
  have l2 := (List.getElem?_eq_some_iff.mp hz).1
  have := List.not_of_lt_findIdx (p := (· == k)) hm
  obtain ⟨_, e3⟩ := List.getElem?_eq_some_iff.mp hz
  rw [e3, e] at this
  simp at this
theorem pd_index {e2 : Expr} {apos cpos : Pos} (ha : PEd X a ua ta) (hr : PAd X [e2] ur tr) (hbase : attributeBase a "index" X.env (eval a X.env) = eval a X.env := by rfl) (hline : (apos.endLine == cpos.line) = true := by rfl)
    (hfew : ((backTo cpos (starEach [e2] X.env)).all (fun x => !x.1) && (backToKw cpos (keywordEach [] X.env)).all (fun x => x.1.isSome) && decide ([e2].length + ([] : List Keyword).length + (if ([] : List Keyword).isEmpty then 0 else 1) < 30)) = true := by rfl)
    (hs : starEach [e2] X.env = (false, eval e2 X.env) :: starEach [] X.env := by rfl) (hplain : (backTo cpos (starEach [] X.env)).any (·.1) = false := by rfl) :
    PEd X (.Call (.Attribute a "index" apos) [e2] [] cpos) (tBM X.K "list" (rIndex X.K) ua ur) (dIndex ta tr) :=
  ⟨pe_bm PySem.F.plainAttrs_list PySem.F.slot_list_index PySem.F.type_list_index mt_index ha.p hr.p hbase hfew hline hs hplain, fun δ P hT H0 H1 σ Q e env k =>
    bm_run (f := fun ns k P => k ∈ ns ∧ P (.int (ns.idxOf k : Nat))) (fun l H1 ns k P Q h hp q => by
      obtain ⟨h1, h2⟩ := idx_at hp.1
      refine ⟨l, ns.map V.int, .int k, ns.idxOf k, .int k, rfl, rfl, h, rfl, by rw [List.all_map]; exact List.all_eq_true.mpr fun _ _ => rfl, by rw [List.getElem?_map, h1]; rfl, by rw [eqV_int]; simp, fun m z hm hz => ?_, q _ hp.2⟩
      rw [List.getElem?_map] at hz
      cases q : ns[m]? with
      | none => rw [q] at hz; cases hz
      | some y =>
        rw [q] at hz
        cases hz
        rw [eqV_int]
        simpa using h2 m y hm q) (fun ns k P h P' g => ⟨h.1, g _ h.2⟩) ha.s hr.s hT e env k⟩
end

/-! ### y = [..], kept as it is -/
theorem snd_fz {K : PySem.W.Frag} (h : SndE K ua ta) : SndE K ua (dFz ta) := fun δ P hT H0 H1 σ Q e env k => h δ _ hT H0 H1 σ Q e env fun v d G0 G hp s r => by
  cases d with
  | mv d =>
    obtain ⟨I0, s2, r2⟩ := Res.fz s r
    exact k v _ I0 G hp s2 (Res.rep r2)
  | _ => exact k v _ G0 G hp s r
theorem sd_setLcF {elt iter : Expr} {ifs : List Expr} {scope : Scope} {x y : Str} {i j : Nat} {p py : Pos} {spos : Pos} {wi : TI} {Ti : DI} {tt : Shared → Hp → Addr → List (Str × Addr) → List Addr → TT} {Tt : DT} {te : Shared → Hp → Addr → List (Str × Addr) → List Addr → TE} {T : DE} (hc : X.calm = true) (nd : X.N.Nodup) (hi : PId X (.Name x p) iter wi Ti) (ok : BlkOk X.N X.env.scope scope [(x, j)])
    (hg : ∀ (s : Shared) (H : Hp) (C : Addr) (cl : List (Str × Addr)) (fp : List Addr), PG (Blk X scope s H C cl fp) (.Name x p) (gName j)) (ht : ∀ (s : Shared) (H : Hp) (C : Addr) (cl : List (Str × Addr)) (fp : List Addr), PTsd (Blk X scope s H C cl fp) ifs (tt s H C cl fp) Tt)
    (he : ∀ (s : Shared) (H : Hp) (C : Addr) (cl : List (Str × Addr)) (fp : List Addr), PEd (Blk X scope s H C cl fp) elt (te s H C cl fp) T) (hsw : swapsWith (.ListComp elt [⟨.Name x p, iter, ifs, 0⟩] scope pos) (some (.Name y py)) spos.line X.env = pure true) (hy : X.N[i]? = some y := by rfl) (hyl : X.env.scope.names.lookup y = some .local := by rfl)
    (hs : ∀ x, foldedSetIterable iter X.env x = pure x := by intro _; rfl) : PSd X B He (.Assign [.Name y py] (.ListComp elt [⟨.Name x p, iter, ifs, 0⟩] scope pos) spos) (dSet i (dFz (dLc j Ti Tt T))) :=
  sd_asg (ps_setLc (own := [(x, j)]) hc nd hy hyl hsw hi.p ok hg (fun s H C cl fp => pts_all (ht s H C cl fp).p) (fun s H C cl fp => pe_all (he s H C cl fp).p) hs)
    (snd_fz fun δ P h H0 H1 σ Q e env k => snd_lc hi.s (snd_allT fun s H C cl fp => (ht s H C cl fp).s) (snd_allE fun s H C cl fp => (he s H C cl fp).s) h e env k)
end
end J
/-! J13: sets of pairs; what a printed proof is told -/
namespace J
open PySem PySem.Spec PyProof.Rows L2

def two (q : Int × Int) : List Int := [q.1, q.2]
theorem pairs_at {K : PySem.W.Frag} {H : Hp} : ∀ (ps : List (Int × Int)) (vs : List V), RepL K H vs (ps.map pD) → ∃ ks : List (Addr × List Int), vs = ks.map (fun p => V.ref p.1) ∧ ks.map (·.2) = ps.map two ∧ ∀ p ∈ ks, H p.1 = some (.tup (p.2.map V.int))
  | [], _, h => by
    cases h
    exact ⟨[], rfl, rfl, fun p hp => by cases hp⟩
  | q :: ps, _, h => by
    cases h with
    | cons r t =>
      obtain ⟨ks, h1, h2, h3⟩ := pairs_at ps _ t
      cases r with
      | tup a b =>
        have z : [D.int q.1, D.int q.2] = (two q).map D.int := rfl
        rw [z] at b
        rw [b.ints] at a
        refine ⟨(_, two q) :: ks, by rw [h1]; rfl, by rw [List.map_cons, h2]; rfl, fun p hp => ?_⟩
        rcases List.mem_cons.mp hp with e | e
        · rw [e]
          exact a
        · exact h3 p e
theorem two_inj {q r : Int × Int} (h : two q = two r) : q = r := by
  obtain ⟨a, b⟩ := q
  obtain ⟨c, d⟩ := r
  simp only [two, List.cons.injEq, and_true] at h
  rw [h.1, h.2]
theorem rep_pairs {K : PySem.W.Frag} {H : Hp} : ∀ (L : List (Addr × List Int)) (qs : List (Int × Int)), L.map (·.2) = qs.map two → (∀ p ∈ L, H p.1 = some (.tup (p.2.map V.int))) → RepL K H (L.map fun p => V.ref p.1) (qs.map pD)
  | [], [], _, _ => .nil
  | [], _ :: _, h, _ => by cases h
  | _ :: _, [], h, _ => by cases h
  | p :: L, q :: qs, h, k => by
    rw [List.map_cons, List.map_cons, List.cons.injEq] at h
    have z := k p List.mem_cons_self
    rw [h.1] at z
    exact .cons (.tup z (.cons (.int _) (.cons (.int _) .nil))) (rep_pairs L qs h.2 fun r hr => k r (List.mem_cons_of_mem _ hr))
theorem all_two : ∀ (xss : List (List Int)) (ps : List (Int × Int)), (∀ xs ∈ xss, xs ∈ ps.map two) → ∃ qs : List (Int × Int), xss = qs.map two
  | [], _, _ => ⟨[], rfl⟩
  | xs :: xss, ps, h => by
    obtain ⟨q, _, e⟩ := List.mem_map.mp (h xs List.mem_cons_self)
    obtain ⟨qs, e2⟩ := all_two xss ps fun y hy => h y (List.mem_cons_of_mem _ hy)
    exact ⟨q :: qs, by rw [List.map_cons, e, ← e2]⟩
theorem mem_two {q : Int × Int} {ps : List (Int × Int)} : two q ∈ ps.map two ↔ q ∈ ps := by
  constructor
  · intro h
    obtain ⟨r, hr, e⟩ := List.mem_map.mp h
    rw [← two_inj e]
    exact hr
  · exact fun h => List.mem_map.mpr ⟨q, h, rfl⟩
theorem nodup_two {ps : List (Int × Int)} : (ps.map two).Nodup ↔ ps.Nodup := by
  unfold List.Nodup
  rw [List.pairwise_map]
  constructor
  · exact fun h => h.imp fun hab e => hab (by rw [e])
  · exact fun h => h.imp fun hab e => hab (two_inj e)
section
variable {X : Cx} {B He : Hp} {pos : Pos} {a : Expr} {ta : DE} {ua : TE}
/-! ### sorted(set(ps)) -/
def dSsetP (ta : DE) : DE := fun δ P => ta δ fun x => ∃ ps : List (Int × Int), x.un.items = some (ps.map pD) ∧ ps.length < 64 ∧ (∀ q ∈ ps, (0 ≤ q.1 ∧ q.1 < 64) ∧ (0 ≤ q.2 ∧ q.2 < 64)) ∧ ∀ qs : List (Int × Int), qs.Nodup → (∀ q, q ∈ qs ↔ q ∈ ps) → P (.mv (.olst (qs.map pD)))
abbrev tSsetP (K : PySem.W.Frag) (P : Program) (w : World) (ua : TE) : TE := tCB (rSortedT K P w) (tCons (tCB (rSetOfT K P w) (tCons ua tNil)) tNil)
theorem snd_ssetP {K : PySem.W.Frag} {pg : Program} {w : World} (ha : SndE K ua ta) : SndE K (tSsetP K pg w ua) (dSsetP ta) := fun δ P hT H0 H1 σ Q e env k => by
  refine ha δ _ hT H0 H1 σ _ e env fun v x G0 G hx s r => ?_
  obtain ⟨ps, hi, few, bd, hp⟩ := hx
  obtain ⟨p, o⟩ := r.un
  obtain ⟨l, vs, rfl, h1, h2⟩ := o.items s.e2 hi
  obtain ⟨ks, rfl, e2, h3⟩ := pairs_at ps vs h2
  have lk : ks.length = ps.length := by
    have z := congrArg List.length e2
    rwa [List.length_map, List.length_map] at z
  refine ⟨l, ks, rfl, h1, fun p hp => .of (s.e2 _ _ (h3 p hp)), by omega, fun sa L hn sub all => ?_⟩
  have inn : ∀ p ∈ L, ∃ q ∈ ps, p.2 = two q := fun p hp => by
    have z : p.2 ∈ ks.map (·.2) := List.mem_map.mpr ⟨p, sub p hp, rfl⟩
    rw [e2] at z
    obtain ⟨q, h, e⟩ := List.mem_map.mp z
    exact ⟨q, h, e.symm⟩
  refine ⟨sa, L, 2, 64, rfl, upd_same, fun p hp => ?_, by decide, fun p hp => ?_, fun L' pa pm nd few' up hn2 => ?_⟩
  · refine .of ?_
    rw [upd_ne (ne_of_none (s.e2 _ _ (h3 p (sub p hp))) hn)]
    exact s.e2 _ _ (h3 p (sub p hp))
  · obtain ⟨q, hq, e⟩ := inn p hp
    rw [e]
    refine ⟨rfl, fun m hm => ?_⟩
    have b := bd q hq
    simp only [two, List.mem_cons, List.not_mem_nil, or_false] at hm
    rcases hm with rfl | rfl
    · exact b.1
    · exact b.2
  · obtain ⟨qs, eq⟩ := all_two (L'.map (·.2)) ps fun xs hxs => by
      obtain ⟨p, hp, rfl⟩ := List.mem_map.mp hxs
      obtain ⟨q, hq, e⟩ := inn p (pm.mem_iff.mp hp)
      exact List.mem_map.mpr ⟨q, hq, e.symm⟩
    have mem : ∀ q, q ∈ qs ↔ q ∈ ps := fun q => by
      rw [← mem_two, ← eq, ← mem_two (ps := ps), ← e2]
      constructor
      · intro h
        obtain ⟨p, hp, e⟩ := List.mem_map.mp h
        exact List.mem_map.mpr ⟨p, sub p (pm.mem_iff.mp hp), e⟩
      · intro h
        obtain ⟨p, hp, e⟩ := List.mem_map.mp h
        have z := all p hp
        rw [e] at z
        obtain ⟨p2, hp2, e3⟩ := List.mem_map.mp z
        exact List.mem_map.mpr ⟨p2, pm.mem_iff.mpr hp2, e3⟩
    have st : Step G0 G G0 (upd G sa (SetTO pg w sa L)) := Step.newO s.e2 hn
    refine (k.after (s.trans st)).lst st.e2 (hp qs (nodup_two.mp (by rw [← eq]; exact nd)) mem) ?_ pa hn2
    exact rep_pairs L' qs eq fun p hp => h3 p (sub p (pm.mem_iff.mp hp))
theorem pd_ssetP {p p2 q : Pos} (hc : X.calm = true) (hu : X.A.units + 64 < cLine) (hm : X.mg "sorted" = none) (hm2 : X.mg "set" = none) (ha : PEd X a ua ta) (hg : Gl X "sorted" := by rfl) (hg2 : Gl X "set" := by rfl) (na : starEach [a] X.env = (false, eval a X.env) :: starEach [] X.env := by rfl)
    (nb : (backTo q (starEach [] X.env)).any (·.1) = false := by rfl) (nc : starEach [.Call (.Name "set" p2) [a] [] q] X.env = (false, eval (.Call (.Name "set" p2) [a] [] q) X.env) :: starEach [] X.env := by rfl) (nd : (backTo pos (starEach [] X.env)).any (·.1) = false := by rfl) :
    PEd X (.Call (.Name "sorted" p) [.Call (.Name "set" p2) [a] [] q] [] pos) (tSsetP X.K X.prog X.w ua) (dSsetP ta) :=
  ⟨pe_callB (cr_sortedT hc) hg hm boot_sorted (pa_cons (pe_callTy (cr_setOfT hc hu) hg2 hm2 PyProof.Rows.boot_set (pa_cons ha.p pa_nil na) (by decide) (by decide) na nb) pa_nil nc) (by decide) (by decide) nc nd, snd_ssetP ha.s⟩

/-! ### len(set(ps)), no two alike -/
def tLT (K : PySem.W.Frag) (ua : TE) : TE := fun σ H Q => ua σ H fun x H1 => ∃ (l : Addr) (ks : List (Addr × List Int)), x = V.ref l ∧ SqL K H1 l (ks.map fun p => V.ref p.1) ∧ (∀ p ∈ ks, SqT K H1 p.1 (p.2.map V.int)) ∧ ks.length < 64 ∧ (ks.map (·.2)).Nodup ∧ Q (.int ks.length) H1
theorem same_len {α : Type} [DecidableEq α] {xs ys : List α} (h1 : xs.Nodup) (h2 : ys.Nodup) (h : ∀ x, x ∈ xs ↔ x ∈ ys) : xs.length = ys.length :=
  ((List.perm_ext_iff_of_nodup h1 h2).mpr h).length_eq
theorem pe_lt {p p2 q : Pos} (hc : X.calm = true) (hu : X.A.units + 64 < cLine) (hg : Gl X "len") (hm : X.mg "len" = none) (hg2 : Gl X "set") (hm2 : X.mg "set" = none) (ha : PE X a ua) (na : starEach [a] X.env = (false, eval a X.env) :: starEach [] X.env := by rfl) :
    PE X (.Call (.Name "len" p) [.Call (.Name "set" p2) [a] [] q] [] pos) (tLT X.K ua) := by
  constructor
  intro pins s σ H Q I h
  apply Call_ (ld_blt I hg hm PySem.boot_len ?_)
  refine PyProof.Rows.callWith_builtin1 (PyProof.Rows.args_cons ?_ rfl) rfl rfl
  apply Call_ (ld_blt I hg2 hm2 PyProof.Rows.boot_set ?_)
  refine PyProof.Rows.callWith_type1 (PyProof.Rows.args_cons (thn (ha.run pins s σ H _ I h) ?_) na) na rfl
  rintro v s1 ⟨x, H1, I1, r1, l, ks, rfl, hq, ht, few, nd, k⟩
  cases r1
  apply PyProof.Rows.args_nil
  have ⟨its, r, pl, hz⟩ := I1.list hq
  refine call_set_tups (P := X.prog) (w := X.w) ks (I1.ok.hd hc) pl.isList (by simpa using refs_of_vals r) (fun p hp => I1.isT (ht p hp)) few (by omega) fun h' tk L es ep t R g keep => ?_
  apply PyProof.Rows.args_nil
  have I2 : Inv X pins σ H1 { s1 with heap := h', toks := tk } := I1.kept keep
  have size : es.size = ks.length := by
    rw [SetTR.size (s := { s1 with heap := h', toks := tk }) R]
    have z := same_len R.nd nd fun xs => by
      constructor
      · intro h
        obtain ⟨p, hp, e⟩ := List.mem_map.mp h
        exact List.mem_map.mpr ⟨p, List.mem_of_mem_take (g.sub p hp), e⟩
      · intro h
        obtain ⟨p, hp, e⟩ := List.mem_map.mp h
        rw [← e]
        exact g.all p (by rw [List.take_length]; exact hp)
    rwa [List.length_map, List.length_map] at z
  obtain ⟨o, ho, hex, hd⟩ := R.ob
  have fits : t.fits es.size = true := SetTR.fits (s := { s1 with heap := h', toks := tk }) R
  exact call_len_set ho hex hd fits (by rw [size]; omega) ⟨.int ks.length, H1, I2.tok _, ⟨_, by rw [size]⟩, k⟩
def dLset (ta : DE) : DE := fun δ P => ta δ fun x => ∃ ps : List (Int × Int), x.un.items = some (ps.map pD) ∧ ps.length < 64 ∧ ps.Nodup ∧ P (.int (ps.length : Nat))
theorem pd_lset {p p2 q : Pos} (hc : X.calm = true) (hu : X.A.units + 64 < cLine) (hm : X.mg "len" = none) (hm2 : X.mg "set" = none) (ha : PEd X a ua ta) (hg : Gl X "len" := by rfl) (hg2 : Gl X "set" := by rfl) (na : starEach [a] X.env = (false, eval a X.env) :: starEach [] X.env := by rfl) :
    PEd X (.Call (.Name "len" p) [.Call (.Name "set" p2) [a] [] q] [] pos) (tLT X.K ua) (dLset ta) :=
  ⟨pe_lt hc hu hg hm hg2 hm2 ha.p na, fun δ P hT H0 H1 σ Q e env k => ha.s δ _ hT H0 H1 σ _ e env fun v x G0 G hx s r => by
    obtain ⟨ps, hi, few, nd, hp⟩ := hx
    obtain ⟨p, o⟩ := r.un
    obtain ⟨l, vs, rfl, h1, h2⟩ := o.items s.e2 hi
    obtain ⟨ks, rfl, e2, h3⟩ := pairs_at ps vs h2
    have lk : ks.length = ps.length := by
      have z := congrArg List.length e2
      rwa [List.length_map, List.length_map] at z
    exact ⟨l, ks, rfl, h1, fun p hp => .of (s.e2 _ _ (h3 p hp)), by omega, by rw [e2]; exact nodup_two.mpr nd, (k.after s).val s.e2 hp (by rw [lk]; exact .int _)⟩⟩
end
end J
/-! J14: small equations for readings -/
namespace J
open PySem PySem.Spec PyProof.Rows L2
section
variable {a b : Int} {p q : Bool} {x : Str} {ds : List D} {dss : List (List D)} {C : Addr} {gs : List (Str × D)} {ks : List (Int × Int)} {ns : List Int} {n : Int} {d : D} {δ : List DV}
theorem un_non : D.un .non = .non := rfl
theorem un_int : D.un (.int a) = .int a := rfl
theorem un_bl : D.un (.bl p) = .bl p := rfl
theorem un_str : D.un (.str x) = .str x := rfl
theorem un_lst : D.un (.lst ds) = .lst ds := rfl
theorem un_tup : D.un (.tup ds) = .tup ds := rfl
theorem un_obj : D.un (.obj C gs) = .obj C gs := rfl
theorem un_dct : D.un (.dct ks) = .dct ks := rfl
theorem un_scr : D.un (.scr ns) = .scr ns := rfl
theorem un_olst : D.un (.olst ds) = .olst ds := rfl
theorem un_oll : D.un (.oll dss) = .oll dss := rfl
theorem un_oobj : D.un (.oobj C gs) = .oobj C gs := rfl
theorem un_mv : D.un (.mv d) = d := rfl
theorem un_m : D.un (mD C n ks) = mD C n ks := rfl
theorem un_p {r : Int × Int} : D.un (pD r) = pD r := rfl
theorem pl_non : D.plain .non = true := rfl
theorem pl_int : D.plain (.int a) = true := rfl
theorem pl_bl : D.plain (.bl p) = true := rfl
theorem pl_str : D.plain (.str x) = true := rfl
theorem pl_lst : D.plain (.lst ds) = true := rfl
theorem pl_tup : D.plain (.tup ds) = true := rfl
theorem pl_obj : D.plain (.obj C gs) = true := rfl
theorem pl_dct : D.plain (.dct ks) = true := rfl
theorem pl_scr : D.plain (.scr ns) = true := rfl
theorem pl_m : D.plain (mD C n ks) = true := rfl
theorem pl_p {r : Int × Int} : D.plain (pD r) = true := rfl
/-- kept as it is -/
def fzm : D → D
  | .mv d => frz (.mv d)
  | d => d
theorem dFz_eq {ta : DE} : dFz ta = fun δ P => ta δ fun x => P (fzm x) := rfl
theorem fzm_non : fzm .non = .non := rfl
theorem fzm_int : fzm (.int a) = .int a := rfl
theorem fzm_bl : fzm (.bl p) = .bl p := rfl
theorem fzm_lst : fzm (.lst ds) = .lst ds := rfl
theorem fzm_tup : fzm (.tup ds) = .tup ds := rfl
theorem fzm_obj : fzm (.obj C gs) = .obj C gs := rfl
theorem fzm_scr : fzm (.scr ns) = .scr ns := rfl
theorem fzm_olst : fzm (.mv (.olst ds)) = .lst ds := rfl
theorem fzm_oll : fzm (.mv (.oll dss)) = .lst (dss.map .lst) := rfl
theorem fzm_oobj : fzm (.mv (.oobj C gs)) = .obj C (gs.map fun g => (g.1, frz1 g.2)) := rfl
theorem fzm_m : fzm (mD C n ks) = mD C n ks := rfl
theorem frz_non : frz .non = .non := rfl
theorem frz_int : frz (.int a) = .int a := rfl
theorem frz_bl : frz (.bl p) = .bl p := rfl
theorem frz_str : frz (.str x) = .str x := rfl
theorem frz_lst : frz (.lst ds) = .lst ds := rfl
theorem frz_tup : frz (.tup ds) = .tup ds := rfl
theorem frz_obj : frz (.obj C gs) = .obj C gs := rfl
theorem frz_dct : frz (.dct ks) = .dct ks := rfl
theorem frz_scr : frz (.scr ns) = .scr ns := rfl
theorem frz_olst : frz (.olst ds) = .lst ds := rfl
theorem frz_oll : frz (.oll dss) = .lst (dss.map .lst) := rfl
theorem frz_m : frz (mD C n ks) = mD C n ks := rfl
theorem fz_no : DV.fz .no = .no := rfl
theorem fz_tr : DV.fz (.tr d) = .tr (frz d) := rfl
theorem see_no : DV.see .no = none := rfl
theorem see_tr : DV.see (.tr d) = some d := rfl
theorem asB_bl {P : Bool → Prop} : asB (.bl p) P = P p := rfl
theorem asI_int {P : Int → Prop} : asI (.int a) P = P a := rfl
theorem asgD_non {P : D → Prop} : asgD .non P = P .non := rfl
theorem asgD_int {P : D → Prop} : asgD (.int a) P = P (.int a) := rfl
theorem asgD_bl {P : D → Prop} : asgD (.bl p) P = P (.bl p) := rfl
theorem asgD_lst {P : D → Prop} : asgD (.lst ds) P = P (.lst ds) := rfl
theorem asgD_tup {P : D → Prop} : asgD (.tup ds) P = P (.tup ds) := rfl
theorem asgD_obj {P : D → Prop} : asgD (.obj C gs) P = P (.obj C gs) := rfl
theorem asgD_mv {P : D → Prop} : asgD (.mv d) P = P d := rfl
theorem asgD_m {P : D → Prop} : asgD (mD C n ks) P = P (mD C n ks) := rfl
theorem it_lst : D.items (.lst ds) = some ds := rfl
theorem it_olst : D.items (.olst ds) = some ds := rfl
theorem it_scr : D.items (.scr ns) = some (ns.map .int) := rfl
theorem li_lst : D.list (.lst ds) = some ds := rfl
theorem li_olst : D.list (.olst ds) = some ds := rfl
theorem pit_lst : D.pit (.lst ds) = some ds := rfl
theorem pit_scr : D.pit (.scr ns) = some (ns.map .int) := rfl
theorem sz_lst : D.size (.lst ds) = some ds.length := rfl
theorem sz_olst : D.size (.olst ds) = some ds.length := rfl
theorem sz_oll : D.size (.oll dss) = some dss.length := rfl
theorem sz_scr : D.size (.scr ns) = some ns.length := rfl
theorem sz_tup : D.size (.tup ds) = some ds.length := rfl
theorem ad_int {P : D → Prop} : gAdd (.int a) (.int b) P = P (.int (a + b)) := rfl
theorem ad_ll {es : List D} {P : D → Prop} : gAdd (.lst ds) (.lst es) P = (ds.length + es.length ≤ 100000 ∧ P (.mv (.olst (ds ++ es)))) := rfl
theorem ad_oo {es : List D} {P : D → Prop} : gAdd (.olst ds) (.olst es) P = (ds.length + es.length ≤ 100000 ∧ P (.mv (.olst (ds ++ es)))) := rfl
theorem ad_lo {es : List D} {P : D → Prop} : gAdd (.lst ds) (.olst es) P = (ds.length + es.length ≤ 100000 ∧ P (.mv (.olst (ds ++ es)))) := rfl
theorem ad_ol {es : List D} {P : D → Prop} : gAdd (.olst ds) (.lst es) P = (ds.length + es.length ≤ 100000 ∧ P (.mv (.olst (ds ++ es)))) := rfl
theorem mu_int {P : D → Prop} : gMul (.int a) (.int b) P = (CMul a b ∧ P (.int (a * b))) := rfl
theorem mu_l {P : D → Prop} : gMul (.lst ds) (.int b) P = (0 ≤ b ∧ b ≤ 1000 ∧ ds.length ≤ 1000 ∧ P (.mv (.olst (List.replicate b.toNat ds).flatten))) := rfl
theorem mu_o {P : D → Prop} : gMul (.olst ds) (.int b) P = (0 ≤ b ∧ b ≤ 1000 ∧ ds.length ≤ 1000 ∧ P (.mv (.olst (List.replicate b.toNat ds).flatten))) := rfl
theorem gI_int {F : Int → Int → Prop} {f : Int → Int → D} {P : D → Prop} : gI F f (.int a) (.int b) P = (F a b ∧ P (f a b)) := rfl
theorem gI0_int {f : Int → Int → D} {P : D → Prop} : gI0 f (.int a) (.int b) P = P (f a b) := rfl
theorem gI2_int {f : Int → Int → Int} {P : D → Prop} : gI2 f [.int a, .int b] P = P (.int (f a b)) := rfl
/-- xs[i] -/
def ixP (ds : List D) (i : Int) (P : D → Prop) : Prop := ∃ d, atI ds i = some d ∧ P d
theorem ix_lst {P : D → Prop} (h : ixP ds a P) : gIx (.lst ds) (.int a) P := by
  obtain ⟨d, e, h⟩ := h
  show (match atI ds a with
    | some d => P d
    | none => False)
  rw [e]
  exact h
theorem ix_olst {P : D → Prop} (h : ixP ds a P) : gIx (.olst ds) (.int a) P := ix_lst h
theorem ix_tup {P : D → Prop} (h : ixP ds a P) : gIx (.tup ds) (.int a) P := ix_lst h
theorem ix_scr {P : D → Prop} (h : ixP (ns.map .int) a P) : gIx (.scr ns) (.int a) P := ix_lst h
theorem at_nat {α : Type} {xs : List α} {i : Nat} {y : α} (h : xs[i]? = some y) : atI xs (i : Int) = some y := by
  have lt := (List.getElem?_eq_some_iff.mp h).1
  have e : ixN xs.length (i : Int) = some i := by
    unfold ixN
    rw [if_pos (by omega), if_pos (by omega)]
    rfl
  unfold atI
  rw [e]
  exact h
theorem at_zero {α : Type} {x : α} {xs : List α} : atI (x :: xs) 0 = some x := at_nat (i := 0) rfl
theorem ii_eqv : PyData.eqv (D.py (.int a)) (D.py (.int b)) = decide (a = b) := rfl
theorem co_int : D.cmpOk (.int a) = true := rfl
theorem co_bl : D.cmpOk (.bl p) = true := rfl
theorem co_non : D.cmpOk .non = true := rfl
end
end J
/-! J15: rows and pairs compared -/
namespace J
open PySem PySem.Spec PyProof.Rows L2
theorem pyL_map {α : Type} (f : α → D) : ∀ xs : List α, pyL (xs.map f) = xs.map fun x => (f x).py
  | [] => rfl
  | x :: xs => by
    show (f x).py :: pyL (xs.map f) = _
    rw [pyL_map f xs]
    rfl
theorem pyL_any {α : Type} (f : α → D) (xs : List α) (p : PyData → Bool) : (pyL (xs.map f)).any p = xs.any fun x => p (f x).py := by
  rw [pyL_map, List.any_map]
  rfl
/-- may be compared, how deep -/
def Cm (d : D) (n : Nat) : Prop := d.isPy = true ∧ d.py.canLay0 = true ∧ d.py.depth ≤ n
theorem Cm.ok {d : D} {n : Nat} (h : Cm d n) (hn : n ≤ 64) : d.cmpOk = true := by
  unfold D.cmpOk SeqAt.shaped
  rw [h.1, h.2.1, decide_eq_true (Nat.le_trans h.2.2 hn)]
  rfl
theorem cm_int (a : Int) : Cm (.int a) 0 := ⟨rfl, rfl, Nat.le_refl _⟩
theorem cm_bl (a : Bool) : Cm (.bl a) 0 := ⟨rfl, rfl, Nat.le_refl _⟩
theorem Cm.mono {d : D} {n m : Nat} (h : Cm d n) (e : n ≤ m) : Cm d m := ⟨h.1, h.2.1, Nat.le_trans h.2.2 e⟩
theorem cmL {n : Nat} : ∀ ds : List D, (∀ d ∈ ds, Cm d n) → isPyL ds = true ∧ PyData.canLayAll0 (pyL ds) = true ∧ PyData.depthAll (pyL ds) ≤ n
  | [], _ => ⟨rfl, rfl, Nat.zero_le _⟩
  | d :: ds, h => by
    obtain ⟨a, b, c⟩ := h d List.mem_cons_self
    obtain ⟨a2, b2, c2⟩ := cmL ds fun e he => h e (List.mem_cons_of_mem _ he)
    refine ⟨?_, ?_, ?_⟩
    · show (d.isPy && isPyL ds) = true
      rw [a, a2] <;> rfl
    · show (PyData.canLay0 d.py && PyData.canLayAll0 (pyL ds)) = true
      rw [b, b2] <;> rfl
    · show max (PyData.depth d.py) (PyData.depthAll (pyL ds)) ≤ n
      omega
theorem cm_lst {n : Nat} {ds : List D} (h : ∀ d ∈ ds, Cm d n) : Cm (.lst ds) (n + 1) := by
  obtain ⟨a, b, c⟩ := cmL ds h
  exact ⟨a, b, Nat.succ_le_succ c⟩
theorem cm_olst {n : Nat} {ds : List D} (h : ∀ d ∈ ds, Cm d n) : Cm (.olst ds) (n + 1) := by
  obtain ⟨a, b, c⟩ := cmL ds h
  exact ⟨a, b, Nat.succ_le_succ c⟩
theorem cm_tup {n : Nat} {ds : List D} (h : ∀ d ∈ ds, Cm d n) : Cm (.tup ds) (n + 1) := by
  obtain ⟨a, b, c⟩ := cmL ds h
  exact ⟨a, b, Nat.succ_le_succ c⟩
theorem cm_map {α : Type} {n : Nat} {f : α → D} (h : ∀ x, Cm (f x) n) (xs : List α) : ∀ d ∈ xs.map f, Cm d n := fun d hd => by
  obtain ⟨x, _, rfl⟩ := List.mem_map.mp hd
  exact h x
theorem cm_p (q : Int × Int) : Cm (pD q) 1 := cm_tup fun d hd => by
  simp only [List.mem_cons, List.not_mem_nil, or_false] at hd
  rcases hd with rfl | rfl <;> exact cm_int _
theorem cm_row (xs : List Int) : Cm (rD xs) 1 := cm_lst (cm_map cm_int xs)
theorem cm_rowO (xs : List Int) : Cm (.olst (xs.map .int)) 1 := cm_olst (cm_map cm_int xs)
theorem co_row {xs : List Int} : D.cmpOk (.lst (xs.map .int)) = true := (cm_row xs).ok (by decide)
theorem co_rowO {xs : List Int} : D.cmpOk (.olst (xs.map .int)) = true := (cm_rowO xs).ok (by decide)
theorem co_nil : D.cmpOk (.lst []) = true := rfl
theorem co_nilO : D.cmpOk (.olst []) = true := rfl
theorem co_ps {ps : List (Int × Int)} : D.cmpOk (.lst (ps.map pD)) = true := (cm_lst (cm_map cm_p ps)).ok (by decide)
theorem co_p {q : Int × Int} : D.cmpOk (pD q) = true := (cm_p q).ok (by decide)
theorem co_p2 {a b : Int} : D.cmpOk (.tup [.int a, .int b]) = true := (cm_p (a, b)).ok (by decide)
theorem co_rows {xss : List (List Int)} : D.cmpOk (.lst (xss.map rD)) = true := (cm_lst (cm_map cm_row xss)).ok (by decide)
theorem eqAll_map {α : Type} [DecidableEq α] {g : α → PyData} (h : ∀ x y, PyData.eqv (g x) (g y) = decide (x = y)) : ∀ xs ys : List α, PyData.eqvAll (xs.map g) (ys.map g) = decide (xs = ys)
  | [], [] => rfl
  | [], _ :: _ => rfl
  | _ :: _, [] => rfl
  | x :: xs, y :: ys => by
    show (PyData.eqv (g x) (g y) && PyData.eqvAll (xs.map g) (ys.map g)) = _
    rw [h, eqAll_map h]
    by_cases e : x = y
    · by_cases e2 : xs = ys <;> simp [e, e2]
    · simp [e]
theorem ev_int (a b : Int) : PyData.eqv (.int a) (.int b) = decide (a = b) := rfl
theorem py_row (xs : List Int) : D.py (rD xs) = .list (xs.map PyData.int) := by
  show PyData.list (pyL (xs.map .int)) = _
  rw [pyL_map]
  rfl
theorem py_rowO (xs : List Int) : D.py (.olst (xs.map .int)) = .list (xs.map PyData.int) := py_row xs
theorem ev_rows (xs ys : List Int) : PyData.eqv (.list (xs.map PyData.int)) (.list (ys.map PyData.int)) = decide (xs = ys) := eqAll_map ev_int xs ys
theorem ev_ll {xs ys : List Int} : PyData.eqv (D.py (.lst (xs.map .int))) (D.py (.lst (ys.map .int))) = decide (xs = ys) := by rw [py_row, py_row, ev_rows]
theorem ev_ol {xs ys : List Int} : PyData.eqv (D.py (.olst (xs.map .int))) (D.py (.lst (ys.map .int))) = decide (xs = ys) := by rw [py_row, py_rowO, ev_rows]
theorem ev_lo {xs ys : List Int} : PyData.eqv (D.py (.lst (xs.map .int))) (D.py (.olst (ys.map .int))) = decide (xs = ys) := by rw [py_row, py_rowO, ev_rows]
theorem ev_oo {xs ys : List Int} : PyData.eqv (D.py (.olst (xs.map .int))) (D.py (.olst (ys.map .int))) = decide (xs = ys) := by rw [py_rowO, py_rowO, ev_rows]
theorem ev_ln {xs : List Int} : PyData.eqv (D.py (.lst (xs.map .int))) (D.py (.lst [])) = decide (xs = []) := ev_ll (ys := [])
theorem ev_lno {xs : List Int} : PyData.eqv (D.py (.lst (xs.map .int))) (D.py (.olst [])) = decide (xs = []) := ev_lo (ys := [])
theorem ev_on {xs : List Int} : PyData.eqv (D.py (.olst (xs.map .int))) (D.py (.lst [])) = decide (xs = []) := ev_ol (ys := [])
theorem ev_ono {xs : List Int} : PyData.eqv (D.py (.olst (xs.map .int))) (D.py (.olst [])) = decide (xs = []) := ev_oo (ys := [])
theorem ev_p (q r : Int × Int) : PyData.eqv (D.py (pD q)) (D.py (pD r)) = decide (q = r) := by
  obtain ⟨a, b⟩ := q
  obtain ⟨c, d⟩ := r
  show (PyData.eqv (.int a) (.int c) && (PyData.eqv (.int b) (.int d) && true)) = _
  rw [ev_int, ev_int, Bool.and_true, ← Bool.decide_and]
  congr 1
  simp
theorem ev_p2 {a b : Int} {q : Int × Int} : PyData.eqv (D.py (pD q)) (D.py (.tup [.int a, .int b])) = decide (q = (a, b)) := ev_p q (a, b)
theorem any_eq {α : Type} [DecidableEq α] (xs : List α) (a : α) : (xs.any fun x => decide (x = a)) = decide (a ∈ xs) := by
  rw [Bool.eq_iff_iff]
  simp
theorem in_ps {ps : List (Int × Int)} {a b : Int} : ((pyL (ps.map pD)).any fun z => PyData.eqv z (D.py (.tup [.int a, .int b]))) = decide ((a, b) ∈ ps) := by
  rw [pyL_any]
  simp only [ev_p2]
  rw [Bool.eq_iff_iff]
  simp
theorem in_row {xs : List Int} {a : Int} : ((pyL (xs.map .int)).any fun z => PyData.eqv z (D.py (.int a))) = decide (a ∈ xs) := by
  rw [pyL_any]
  show (xs.any fun x => PyData.eqv (.int x) (.int a)) = _
  simp only [ev_int]
  exact any_eq xs a
/-! ### one round of a loop -/
theorem forGo_op {t : DG} {T : DS} {E : EndsD} {d : D} {ds : List D} {δ : List DV} (g : ∀ N, N = forGo t T E ds → t d δ fun δ' => T { nx := N, rt := E.rt, bk := E.nx, ct := N } δ') : forGo t T E (d :: ds) δ := g _ rfl
theorem compGo_op {j : Nat} {tt : DT} {te : DE} {P : D → Prop} {d : D} {ds acc : List D} {δ : List DV} (g : ∀ N, N = compGo j tt te P ds → tt (δ.set j (.tr d)) fun b => match b with
  | true => te (δ.set j (.tr d)) fun y => y.plain = true ∧ acc.length ≤ 100000 ∧ N (acc ++ [y]) δ
  | false => N acc δ) : compGo j tt te P (d :: ds) acc δ := g _ rfl
theorem whileGo_op {t : DT} {T : DS} {E : EndsD} {n : Nat} {δ : List DV} (g : ∀ N, N = whileGo t T E n → t δ fun b => match b with
  | true => T { nx := N, rt := E.rt, bk := E.nx, ct := N } δ
  | false => E.nx δ) : whileGo t T E (n + 1) δ := g _ rfl
end J
/-! J16: self.table = {}, for pair in pairs: self.table[pair] = True -/
namespace J
open PySem PySem.Spec PyProof.Rows L2
theorem tab_put {ps : List (Int × Int)} {q : Int × Int} (h : q ∉ ps) : putK (tab ps) [Sum.inl q.1, Sum.inl q.2] (V.bl true) = tab (ps ++ [q]) := by
  unfold putK
  rw [if_neg]
  · unfold tab
    rw [List.map_append]
    rfl
  · rw [List.any_eq_true]
    rintro ⟨kv, hkv, e⟩
    obtain ⟨r, hr, rfl⟩ := List.mem_map.mp hkv
    have e2 := of_decide_eq_true e
    simp only [List.cons.injEq, Sum.inl.injEq, and_true] at e2
    apply h
    have e3 : r = q := Prod.ext e2.1 e2.2
    rwa [← e3]
theorem step_none {H0 H1 G0 G : Hp} (s : Step H0 H1 G0 G) {a : Addr} {o : HO} (h : H1 a = some o) (n : H0 a = none) : G0 a = none := by
  cases q : G0 a with
  | none => rfl
  | some u =>
    have z := s.fr a u q n
    rw [h] at z
    cases z
section
variable {K : PySem.W.Frag} {C : Addr} {B He H0 H : Hp} {δ : List DV} {σ : L2.St} {x : Addr} {gs : List (Str × D)} {D' : Ends}
/-- self.table = {}; for pair in pairs: self.table[pair] = True; i: where pairs stands, j: where pair -/
theorem ini_table {wi : TI} {Ti : DI} {j : Nat} {ps : List (Int × Int)} (h : InI K C B He H0 δ σ H x gs) (ok : FldOk K C "table") (hl : gs.lookup ("table" : Str) = none) (hz : gs.length ≤ 100) (hi : SndI K wi Ti) (hT : Ti δ fun ds => ds = ps.map pD) (nd : ps.Nodup) (few : ps.length < 64)
    (hj : (δ[j]?).bind DV.see = none) (hj0 : j ≠ 0) (hjl : j < δ.length) (k : ∀ G0 G σ', InI K C B He G0 δ σ' G x (gs ++ [(("table" : Str), D.dct ps)]) → D'.nx σ' G) :
    tSeq (sFld K (tVar 0) tDNewT "table") (tFor wi (gName j) (sDPut (tFld K (tVar 0) "table") (tVar j) (tC (.bl true)))) D' σ H := by
  intro p hp
  obtain ⟨dx, fs, p0, ho, hf, fr⟩ := h.obj
  have xp : x ≠ p := fun e => by rw [e, hp] at ho; cases ho
  have xp0 : x ∉ p0 := (List.nodup_cons.mp fr.1).1
  have np0 : p ∉ p0 := fun z => by
    obtain ⟨u, hu⟩ := hf.there p z
    rw [hp] at hu
    cases hu
  have H0p : H0 p = none := h.st.e2.free hp
  have Bp : B p = none := h.st.e1.free hp
  have H0x : H0 x = none := (fr.2 x List.mem_cons_self).1
  have Bx : B x = none := (fr.2 x List.mem_cons_self).2
  refine ⟨.ref x, h.me, x, C, dx, fs, rfl, by rw [upd_ne xp]; exact ho, ok.cls, ok.no, by rw [hf.len]; omega, ?_⟩
  have pf0 : putF "table" (.ref p) fs = fs ++ [(("table" : Str), V.ref p)] := putF_new (hf.none hl)
  rw [pf0]
  generalize hX : (HO.ins C dx (fs ++ [(("table" : Str), V.ref p)])) = X
  have at0 : ∀ a, a ≠ p → a ≠ x → upd (upd H p (.dT [])) x X a = H a := fun a h1 h2 => by rw [upd_ne h2, upd_ne h1]
  have same0 : Same H0 (upd (upd H p (.dT [])) x X) := fun a o q => by
    rw [at0 a (fun e => by rw [e, H0p] at q; cases q) (fun e => by rw [e, H0x] at q; cases q)]
    exact h.st.e2 a o q
  have sameB : Same B (upd (upd H p (.dT [])) x X) := fun a o q => by
    rw [at0 a (fun e => by rw [e, Bp] at q; cases q) (fun e => by rw [e, Bx] at q; cases q)]
    exact h.st.e1 a o q
  refine hi δ _ hT H0 _ σ _ same0 h.env.env fun J ds G0 G ed s wk => ?_
  subst ed
  have wl : (ps.map pD).length = ps.length := List.length_map _
  refine ⟨fun i m σ' H' => m = ps.length - i ∧ i ≤ ps.length ∧ ∃ I0, Same G0 I0 ∧ Same I0 H' ∧ (∀ a o, I0 a = some o → He a = none → B a = none) ∧ Same B H' ∧ H' p = some (.dT (tab (ps.take i))) ∧ I0 p = none ∧ H' x = some X ∧ I0 x = none ∧ KeepO p0 H H' ∧ (∀ a ∈ p0, I0 a = none) ∧ (∀ n, n ≠ j → σ'[n]? = σ[n]?) ∧ σ'.length = σ.length, ⟨_, rfl, Nat.zero_le _, G0, Same.refl _, s.e2, fun a o q n => ?_, sameB.trans s.e1, ?_, ?_, ?_, ?_, ?_, ?_, fun _ _ => rfl, rfl⟩, ?_⟩
  · cases e : H0 a with
    | some u => exact h.st.fr a u e n
    | none => exact sameB.free (s.fr a o q e)
  · exact s.e1 p _ (by rw [upd_ne xp.symm, upd_same]; rfl)
  · exact step_none s (o := .dT []) (by rw [upd_ne xp.symm, upd_same]) H0p
  · exact s.e1 x _ upd_same
  · exact step_none s (o := X) upd_same H0x
  · intro a ha o q
    refine s.e1 a o ?_
    rw [at0 a (fun e => np0 (e ▸ ha)) (fun e => xp0 (e ▸ ha))]
    exact q
  · intro a ha
    obtain ⟨u, hu⟩ := hf.there a ha
    refine step_none s (o := u) ?_ (fr.2 a (List.mem_cons_of_mem _ ha)).1
    rw [at0 a (fun e => np0 (e ▸ ha)) (fun e => xp0 (e ▸ ha))]
    exact hu
  · rintro i m σ' H' ⟨rfl, hi, I0, a1, a2, a3, a4, a5, a6, a7, a8, a9, a10, a11, a12⟩
    have eH : Same G0 H' := a1.trans a2
    by_cases lt : i < ps.length
    · refine .inr ⟨wk.go i H' eH (by rw [wl]; exact lt), fun σ2 H2 => ∃ I0, Same G0 I0 ∧ Same I0 H2 ∧ (∀ a o, I0 a = some o → He a = none → B a = none) ∧ Same B H2 ∧ H2 p = some (.dT (tab (ps.take (i + 1)))) ∧ I0 p = none ∧ H2 x = some X ∧ I0 x = none ∧ KeepO p0 H H2 ∧ (∀ a ∈ p0, I0 a = none) ∧ (∀ n, n ≠ j → σ2[n]? = σ[n]?) ∧ σ2.length = σ.length, fun σ2 H2 ⟨I2, z⟩ => ⟨ps.length - (i + 1), by omega, rfl, lt, I2, z⟩, fun v H2 y => ?_⟩
      have hd : (ps.map pD)[i]? = some (pD ps[i]) := by rw [List.getElem?_map, List.getElem?_eq_getElem lt]; rfl
      obtain ⟨I1, s1, r1⟩ := wk.yld i H' v H2 _ eH y hd I0 a1 a2
      generalize hq : ps[i] = q at r1
      obtain ⟨t, rfl, ht⟩ : ∃ t, v = .ref t ∧ I1 t = some (.tup [V.int q.1, V.int q.2]) := by
        cases r1 with
        | tup h1 h2 =>
          have z : [D.int q.1, D.int q.2] = [q.1, q.2].map D.int := rfl
          rw [z] at h2
          rw [h2.ints] at h1
          exact ⟨_, rfl, h1⟩
      have m5 := s1.e1 p _ a5
      have m7 := s1.e1 x _ a7
      have σ0 : (σ'.set j (some (V.ref t)))[0]? = some (some (.ref x)) := by
        rw [List.getElem?_set_ne hj0, a11 0 hj0.symm]
        exact h.me
      have lj : j < σ'.length := by
        rw [a12, ← h.env.len]
        exact hjl
      have fl : (fs ++ [(("table" : Str), V.ref p)]).lookup ("table" : Str) = some (.ref p) := by
        rw [List.lookup_append, hf.none hl]
        rfl
      refine ⟨.ref x, σ0, x, C, dx, _, _, rfl, by rw [m7, hX], ok.cls, ok.no, fl, .ref t, List.getElem?_set_self lj, p, _, rfl, DPut.t (k := [Sum.inl q.1, Sum.inl q.2]) m5 (s1.e2 t _ ht) ?_, ?_⟩
      · unfold tab
        rw [List.length_map, List.length_take, sizeLine_eq]
        omega
      · have notin : q ∉ ps.take i := fun z => by
          obtain ⟨n, hn, e⟩ := List.mem_iff_getElem.mp z
          rw [List.length_take] at hn
          rw [List.getElem_take, ← hq] at e
          exact List.pairwise_iff_getElem.mp nd n i (by omega) lt (by omega) e
        have tk : ps.take (i + 1) = ps.take i ++ [q] := by
          rw [List.take_succ, List.getElem?_eq_getElem lt, hq]
          rfl
        rw [tab_put notin, ← tk]
        have I1p : I1 p = none := step_none s1 a5 a6
        have I1x : I1 x = none := step_none s1 a7 a8
        refine ⟨I1, a1.trans s1.e0, fun a o q => ?_, fun a o q n => ?_, fun a o q => ?_, upd_same, I1p, ?_, I1x, fun a ha o q => ?_, fun a ha => ?_, fun n hn => ?_, ?_⟩
        · rw [upd_ne fun e => by rw [e, I1p] at q; cases q]
          exact s1.e2 a o q
        · cases e : I0 a with
          | some u => exact a3 a u e n
          | none => exact a4.free (s1.fr a o q e)
        · rw [upd_ne fun e => by rw [e, Bp] at q; cases q]
          exact s1.e1 a o (a4 a o q)
        · rw [upd_ne xp]
          exact m7
        · rw [upd_ne fun z => np0 (by rw [← z]; exact ha)]
          exact s1.e1 a o (a9 a ha o q)
        · obtain ⟨u, hu⟩ := hf.there a ha
          exact step_none s1 (a9 a ha u hu) (a10 a ha)
        · rw [List.getElem?_set_ne (Ne.symm hn)]
          exact a11 n hn
        · rw [List.length_set]
          exact a12
    · have e : i = ps.length := by omega
      subst e
      rw [List.take_length] at a5
      refine .inl ⟨by rw [← wl]; exact wk.stop H' eH, k (upd I0 p (.dT (tab ps))) H' σ' ⟨⟨a4, fun a o q => ?_, fun a o q => ?_, fun a o q n => ?_⟩, ⟨fun n d q => ?_, by rw [a12]; exact h.env.len⟩, ?_, dx, fs ++ [(("table" : Str), V.ref p)], p0 ++ [], by rw [a7, hX], ?_, ?_⟩⟩
      · have z := a1 a o (s.e0 a o (h.st.e0 a o q))
        rw [upd_ne fun e => by rw [e, a6] at z; cases z]
        exact z
      · by_cases e : a = p
        · rw [e, upd_same] at q
          rw [e, a5]
          exact q
        · rw [upd_ne e] at q
          exact a2 a o q
      · by_cases e : a = p
        · rw [e]
          exact Bp
        · rw [upd_ne e] at q
          exact a3 a o q n
      · have nj : n ≠ j := fun e => by rw [e, hj] at q; cases q
        obtain ⟨v, h1, h2⟩ := h.env.at_ n d q
        refine ⟨v, by rw [a11 n nj]; exact h1, (h2.to (s.e0.trans a1)).to fun a o q => ?_⟩
        rw [upd_ne fun e => by rw [e, a6] at q; cases q]
        exact q
      · rw [a11 0 hj0.symm]
        exact h.me
      · have e0 : Same H0 (upd I0 p (.dT (tab ps))) := fun a o q => by
          have z := a1 a o (s.e0 a o q)
          rw [upd_ne fun e => by rw [e, a6] at z; cases z]
          exact z
        exact (hf.mono e0 a9).snoc (.leaf (.dct upd_same))
      · rw [List.append_nil]
        refine ⟨fr.1, fun a ha => ⟨?_, (fr.2 a ha).2⟩⟩
        rcases List.mem_cons.mp ha with e | e
        · rw [e, upd_ne xp]
          exact a8
        · rw [upd_ne fun z => np0 (by rw [← z]; exact e)]
          exact a10 a e
end
end J
/-! J17: the ways in, statement by statement; a def told to its callers -/
namespace J
open PySem PySem.Spec PyProof.Rows L2
def tAny (X : Cx) (sts : List Stmt) : TS := fun D σ H => ∃ t, PSs X sts t ∧ t D σ H
theorem pss_any {X : Cx} {sts : List Stmt} : PSs X sts (tAny X sts) := ⟨fun pins s σ H D I ⟨_, ht, h⟩ => ht.run pins s σ H D I h⟩
section
variable {X : Cx} {C : Addr} {B He H0 H : Hp} {δ : List DV} {σ : L2.St} {x : Addr} {gs : List (Str × D)} {D' : Ends} {rest : List Stmt} {pos : Pos}
theorem any_nil (h : D'.nx σ H) : tAny X [] D' σ H := ⟨_, pss_nil, h⟩
theorem any_if {c : Expr} {a : List Stmt} {ut : TT} {T : DT} (hc : PTd X c ut T) (h : InI X.K C B He H0 δ σ H x gs) (hT : T δ fun b => b = false) (k : ∀ G, InI X.K C B He H0 δ σ G x gs → tAny X rest D' σ G) : tAny X (.If c a [] pos :: rest) D' σ H :=
  ⟨_, pss_cons (ps_if hc.p (pss_never (sts := a)) pss_nil) pss_any, ini_if (D' := { D' with nx := tAny X rest D' }) h hc.s hT k⟩
theorem any_fld {o e : Expr} {f : Str} {te : TE} {T : DE} {P : D → Prop} {pos' : Pos} (he : PEd X e te T) (ho : PE X o (tVar 0)) (h : InI X.K C B He H0 δ σ H x gs) (ok : FldOk X.K C f) (hT : T δ fun d => fldD d P) (hl : gs.lookup f = none) (hz : gs.length ≤ 100)
    (k : ∀ d G0 G, P d → InI X.K C B He G0 δ σ G x (gs ++ [(f, d)]) → tAny X rest D' σ G) (hs : swapsWith e (some (.Attribute o f pos')) pos.line X.env = pure false := by rfl) : tAny X (.Assign [.Attribute o f pos'] e pos :: rest) D' σ H :=
  ⟨_, pss_cons (ps_fld ho he.p hs) pss_any, ini_fld (D' := { D' with nx := tAny X rest D' }) h he.s hT ok hl hz k⟩
theorem any_table {o it o2 i2 v2 tg : Expr} {Ti : DI} {wi : TI} {j : Nat} {ps : List (Int × Int)} {p1 p2 p3 p4 p5 p6 p7 : Pos} (hc : X.calm = true) (hu : X.A.units + 1 < cLine) (hi : PId X tg it wi Ti) (hg : PG X tg (gName j)) (ho : PE X o (tVar 0)) (ho2 : PE X o2 (tVar 0)) (hi2 : PE X i2 (tVar j)) (hv : PE X v2 (tC (.bl true)))
    (h : InI X.K C B He H0 δ σ H x gs) (ok : FldOk X.K C "table") (hT : Ti δ fun ds => ds = ps.map pD) (hl : gs.lookup ("table" : Str) = none) (hz : gs.length ≤ 100) (nd : ps.Nodup) (few : ps.length < 64) (hj : (δ[j]?).bind DV.see = none) (hj0 : j ≠ 0) (hjl : j < δ.length)
    (k : ∀ G0 G σ', InI X.K C B He G0 δ σ' G x (gs ++ [(("table" : Str), .dct ps)]) → tAny X rest D' σ' G)
    (hs : swapsWith (.Dict [] [] p1) (some (.Attribute o "table" p2)) p3.line X.env = pure false := by rfl)
    (hs2 : swapsWith v2 (some (.Subscript (.Attribute o2 "table" p4) i2 p5)) p6.line X.env = pure false := by rfl)
    (hb : attributeBase o2 "table" X.env (eval o2 X.env) = eval o2 X.env := by rfl)
    (hp : PassesOwn (model X.prog X.w) X.A X.env X.xe := by exact PassesOwn.never) (hf : ∀ x, foldedSetIterable it X.env x = pure x := by intro _; rfl) :
    tAny X (.Assign [.Attribute o "table" p2] (.Dict [] [] p1) p3 :: .For tg it [.Assign [.Subscript (.Attribute o2 "table" p4) i2 p5] v2 p6] [] p7 :: rest) D' σ H :=
  ⟨tSeq (sFld X.K (tVar 0) tDNewT "table") (tSeq (tFor wi (gName j) (sDPut (tFld X.K (tVar 0) "table") (tVar j) (tC (.bl true)))) (tAny X rest)),
    pss_cons (ps_fld ho pe_dnewT hs) (pss_cons (ps_for hp hc hi.p hg (pss_one (ps_dput hu (pe_fld ho2 hb) hi2 hv hs2)) hf) pss_any), ini_table (D' := { D' with nx := tAny X rest D' }) h ok hl hz hi.s hT nd few hj hj0 hjl k⟩
end
section
variable {X : Cx} {B He : Hp} {pos : Pos}
/-- o[i1], o[i2] = e -/
theorem sd_swap2 {o1 i1 o2 i2 e : Expr} {k kk : Nat} {p1 p2 p3 : Pos} {ui uj ue : TE} {ti tj te : DE} (hc : X.calm = true) (hi : PEd X i1 ui ti) (hj : PEd X i2 uj tj) (he : PEd X e ue te)
    (g1 : ∀ t, PE X i1 t → PG X (.Subscript o1 i1 p1) (gSub (tVar k) t rSetL)) (g2 : ∀ t, PE X i2 t → PG X (.Subscript o2 i2 p2) (gSub (tVar k) t rSetL))
    (h1 : (assignEach [.Subscript o1 i1 p1, .Subscript o2 i2 p2] X.env).map (·.2) = assign (.Subscript o1 i1 p1) X.env :: (assignEach [.Subscript o2 i2 p2] X.env).map (·.2) := by rfl)
    (h2 : (assignEach [.Subscript o2 i2 p2] X.env).map (·.2) = assign (.Subscript o2 i2 p2) X.env :: (assignEach [] X.env).map (·.2) := by rfl)
    (hn : (assignEach [.Subscript o1 i1 p1, .Subscript o2 i2 p2] X.env).length = 2 := by rfl) (hst : (assignEach [.Subscript o1 i1 p1, .Subscript o2 i2 p2] X.env).findIdx? (·.1) = none := by rfl)
    (hs : swapsWithSole [.Tuple [.Subscript o1 i1 p1, .Subscript o2 i2 p2] kk p3] e pos.line X.env = pure false := by rfl) (hw : swappedStores [.Tuple [.Subscript o1 i1 p1, .Subscript o2 i2 p2] kk p3] e X.env = pure none := by rfl)
    (h3 : (assignEach [.Tuple [.Subscript o1 i1 p1, .Subscript o2 i2 p2] kk p3] X.env).map (·.2) = [assign (.Tuple [.Subscript o1 i1 p1, .Subscript o2 i2 p2] kk p3) X.env] := by rfl) :
    PSd X B He (.Assign [.Tuple [.Subscript o1 i1 p1, .Subscript o2 i2 p2] kk p3] e pos) (dSwap k ti tj te) :=
  sd_swap (fun te h => ps_asg h (pg_tup hc (pgs_cons (g1 _ hi.p) (pgs_cons (g2 _ hj.p) pgs_nil h2) h1) hn hst) hs hw h3) hi.s hj.s he
end
end J
/-! J18: one of two classes; a field's list changed -/
namespace J
open PySem PySem.Spec PyProof.Rows L2
def dOr2 (T1 T2 : DE) : DE := fun δ P => T1 δ P ∨ T2 δ P
theorem pd_o2 {X : Cx} {e : Expr} {t1 t2 : TE} {T1 T2 : DE} (h1 : PEd X e t1 T1) (h2 : PEd X e t2 T2) : PEd X e (tOr2 t1 t2) (dOr2 T1 T2) := pd_or2 h1 h2
def setFld (gs : List (Str × D)) (f : Str) (d : D) : List (Str × D) := match gs with
  | [] => []
  | (x, e) :: gs => match f == x with
    | true => (x, d) :: gs
    | false => (x, e) :: setFld gs f d
theorem OwnF.app {K : PySem.W.Frag} {H0 H : Hp} {f : Str} {ds : List D} : ∀ {p : List Addr} {fs : List (Str × V)} {gs : List (Str × D)}, OwnF K H0 H p fs gs → p.Nodup → gs.lookup f = some (.olst ds) → ∃ a vs, fs.lookup f = some (.ref a) ∧ a ∈ p ∧ H a = some (.lst vs) ∧ RepL K H0 vs ds ∧
    ∀ vs' ds', RepL K H0 vs' ds' → OwnF K H0 (upd H a (.lst vs')) p fs (setFld gs f (.olst ds'))
  | _, _, _, .nil, _, h => by cases h
  | _, (_, v) :: fs, (x, d) :: gs, @OwnF.cons _ _ _ _ _ _ _ _ p q h1 t, nd, h => by
    obtain ⟨n1, n2, n3⟩ := List.nodup_append.mp nd
    rw [List.lookup_cons] at h
    cases e : (f == x) with
    | true =>
      rw [e] at h
      cases h
      cases h1 with
      | leaf r => cases r
      | olst g r =>
        refine ⟨_, _, by rw [List.lookup_cons, e], List.mem_append_left _ List.mem_cons_self, g, r, fun vs' ds' r' => ?_⟩
        unfold setFld
        rw [e]
        refine .cons (.olst upd_same r') (t.mono (Same.refl _) fun b hb o ho => ?_)
        rw [upd_ne fun z => n3 _ List.mem_cons_self b hb z.symm]
        exact ho
    | false =>
      rw [e] at h
      obtain ⟨a, vs, k1, k2, k3, k4, k5⟩ := t.app n2 h
      refine ⟨a, vs, by rw [List.lookup_cons, e]; exact k1, List.mem_append_right _ k2, k3, k4, fun vs' ds' r' => ?_⟩
      unfold setFld
      rw [e]
      refine .cons (h1.mono (Same.refl _) fun b hb o ho => ?_) (k5 vs' ds' r')
      rw [upd_ne fun z => n3 b hb a k2 z]
      exact ho
/-- e.f.append(a), e the i-th slot, an instance held there -/
def dAppF (K : PySem.W.Frag) (i : Nat) (f : Str) (ta : DE) : DS := fun E δ => ∃ C gs ds, δ[i]? = some (.tr (.oobj C gs)) ∧ FldOk K C f ∧ gs.lookup f = some (.olst ds) ∧ ds.length ≤ 100000 ∧ ta δ fun x => x.plain = true ∧ E.nx (δ.set i (.tr (.oobj C (setFld gs f (.olst (ds ++ [x]))))))
theorem Own.oobj' {K : PySem.W.Frag} {H0 H1 : Hp} {p : List Addr} {v : V} {C : Addr} {gs : List (Str × D)} (h : Own K H0 H1 p v (.oobj C gs)) : ∃ a dx fs q, p = a :: q ∧ v = .ref a ∧ H1 a = some (.ins C dx fs) ∧ OwnF K H0 H1 q fs gs := by
  cases h with
  | one r =>
    cases r with
    | leaf r => cases r
  | oobj g t => exact ⟨_, _, _, _, rfl, rfl, g, t⟩
section
variable {X : Cx} {B He : Hp} {pos : Pos} {ua : TE} {ta : DE}
theorem sd_appF {i : Nat} {f : Str} {o a : Expr} {fpos apos cpos : Pos} (ho : PE X o (tVar i)) (ha : PEd X a ua ta) (hbf : attributeBase o f X.env (eval o X.env) = eval o X.env := by rfl)
    (hbase : attributeBase (.Attribute o f fpos) "append" X.env (eval (.Attribute o f fpos) X.env) = eval (.Attribute o f fpos) X.env := by rfl)
    (hfew : ((backTo cpos (starEach (a :: []) X.env)).all (fun x => !x.1) && (backToKw cpos (keywordEach [] X.env)).all (fun x => x.1.isSome)
      && decide ((a :: []).length + ([] : List Keyword).length + (if ([] : List Keyword).isEmpty then 0 else 1) < 30)) = true := by rfl)
    (hline : (apos.endLine == cpos.line) = true := by rfl) (hs : starEach (a :: []) X.env = (false, eval a X.env) :: starEach [] X.env := by rfl) (hplain : (backTo cpos (starEach [] X.env)).any (·.1) = false := by rfl)
    (hsw : swapsWith (.Call (.Attribute (.Attribute o f fpos) "append" apos) [a] [] cpos) none pos.line X.env = pure false := by rfl) : PSd X B He (.Expr (.Call (.Attribute (.Attribute o f fpos) "append" apos) [a] [] cpos) pos) (dAppF X.K i f ta) := by
  obtain ⟨a1, a2⟩ := ha
  refine ⟨_, ps_expr (pe_bm PySem.F.plainAttrs_list PySem.F.slot_list_append PySem.F.type_list_append mt_append (pe_fld ho hbf) (pa_cons a1 pa_nil hs) hbase hfew hline hs hplain) hsw, fun E δ h D H0 σ H L ok => ?_⟩
  obtain ⟨C, gs, ds, hq, hF, hl, hz, hT⟩ := h
  obtain ⟨F, hf⟩ := ok.own
  obtain ⟨v, hv, o1⟩ := hf.is i _ hq
  obtain ⟨b, dx, fs, q, eF, rfl, hb, o2⟩ := o1.oobj'
  have nq : q.Nodup := by
    have z := (hf.fresh i).1
    rw [eF] at z
    exact (List.nodup_cons.mp z).2
  obtain ⟨l, vs, k1, k2, k3, k4, _⟩ := o2.app nq hl
  refine ⟨.ref b, hv, b, C, dx, fs, .ref l, rfl, hb, hF.cls, hF.no, k1, tyL k3, a2 δ _ hT H0 H σ _ ok.st.e2 ok.env fun w x G0 G hx s r => ?_⟩
  have ok2 := ok.to s
  obtain ⟨F2, hf2⟩ := ok2.own
  obtain ⟨v2, hv2, o3⟩ := hf2.is i _ hq
  rw [hv] at hv2
  have ev : V.ref b = v2 := Option.some.inj (Option.some.inj hv2)
  subst ev
  obtain ⟨b2, dx2, fs2, q2, eF2, e3, hb2, o4⟩ := o3.oobj'
  cases e3
  have hb3 := s.e1 _ _ hb
  rw [hb3] at hb2
  cases hb2
  have nF := (hf2.fresh i).1
  rw [eF2] at nF
  obtain ⟨nb, nq2⟩ := List.nodup_cons.mp nF
  obtain ⟨l2, ws, j1, j2, j3, j4, j5⟩ := o4.app nq2 hl
  rw [k1] at j1
  cases j1
  refine ⟨l, ws, w, rfl, rfl, j3, sz6 (by rw [j4.len]; exact hz), L.nx _ G0 _ _ hx.2 ?_ s.e0⟩
  refine Holds.write ok2 hf2 (by rw [eF2]; exact List.mem_cons_of_mem _ j2) hv (lt_of_get hq) ?_
  rw [eF2]
  have hb4 : upd G l (.lst (ws ++ [w])) b = some (.ins C dx fs) := by
    rw [upd_ne fun z => nb (by rw [z]; exact j2)]
    exact hb3
  exact Own.oobj hb4 (j5 _ _ (j4.app (.cons (r.rep_of hx.1) .nil)))
end
end J
/-! J19: list(reversed(range(m, n))) -/
namespace J
open PySem PySem.Spec PyProof.Rows L2
def rvs (m n : Int) : List Int := (List.range (n - m).toNat).map fun (i : Nat) => m + (((n - m).toNat : Nat) : Int) - 1 + (i : Int) * (-1)
def dLrv2 (ta tb : DE) : DE := fun δ P => ta δ fun x => asI x fun m => tb δ fun y => asI y fun n => 0 ≤ m ∧ m ≤ 100000 ∧ 0 ≤ n ∧ n ≤ 100000 ∧ P (.mv (.olst ((rvs m n).map .int)))
section
variable {X : Cx} {pos : Pos} {a b : Expr} {ta tb : DE} {ua ub : TE}
theorem pd_lrv2 {p p2 p3 pos2 pos3 : Pos} (hc : X.calm = true) (hm : X.mg "list" = none) (hm3 : X.mg "reversed" = none) (hm2 : X.mg "range" = none) (ha : PEd X a ua ta) (hb : PEd X b ub tb) (hg : Gl X "list" := by rfl) (hg2 : Gl X "range" := by rfl) (hg3 : Gl X "reversed" := by rfl)
    (na : starEach [a, b] X.env = (false, eval a X.env) :: starEach [b] X.env := by rfl) (nb : starEach [b] X.env = (false, eval b X.env) :: starEach [] X.env := by rfl) (hp : (backTo pos2 (starEach [b] X.env)).any (·.1) = false := by rfl)
    (nc : starEach [.Call (.Name "range" p2) [a, b] [] pos2] X.env = (false, eval (.Call (.Name "range" p2) [a, b] [] pos2) X.env) :: starEach [] X.env := by rfl)
    (nd : starEach [.Call (.Name "reversed" p3) [.Call (.Name "range" p2) [a, b] [] pos2] [] pos3] X.env = (false, eval (.Call (.Name "reversed" p3) [.Call (.Name "range" p2) [a, b] [] pos2] [] pos3) X.env) :: starEach [] X.env := by rfl) :
    PEd X (.Call (.Name "list" p) [.Call (.Name "reversed" p3) [.Call (.Name "range" p2) [a, b] [] pos2] [] pos3] [] pos) (SLI.tLrv (tRg2 ua ub)) (dLrv2 ta tb) := by
  refine ⟨SLI.pe_lrv hc hg hm hg3 hm3 (prg_2 hg2 hm2 ha.p hb.p na nb hp) nc nd, fun δ P hT H0 H1 σ Q e env k => ha.s δ _ hT H0 H1 σ _ e env fun v x G0 G hx s r => ?_⟩
  obtain ⟨m, rfl, hx⟩ := asI_inv hx
  refine hb.s δ _ hx G0 G σ _ s.e2 (env.to s.e0 s.e1) fun w y I0 I hy s2 r2 => ?_
  obtain ⟨n, rfl, h0, h1, h2, h3, hq⟩ := asI_inv hy
  refine ⟨m, n, res_int r, res_int r2, by omega, by omega, by omega, by omega, by omega, (k.after (s.trans s2)).lst s2.e2 hq ?_⟩
  have e : ((List.range (n - m).toNat).map fun (i : Nat) => V.int (m + (((n - m).toNat : Nat) : Int) - 1 + (i : Nat) * (-1))) = (rvs m n).map V.int := by
    unfold rvs
    rw [List.map_map]
    rfl
  rw [e]
  exact .ofInts _
end
end J
/-! J20: a field's list made shorter; what is held, looked at as plain -/
namespace J
open PySem PySem.Spec PyProof.Rows L2
/-- what is held is plain while e is worked out; the answer holds none of it -/
def dBor (ta : DE) : DE := fun δ P => ta (δ.map DV.fz) fun d => d.leafy = true ∧ P d
theorem snd_bor {K : PySem.W.Frag} {ua : TE} {ta : DE} (h : SndE K ua ta) : SndE K ua (dBor ta) := fun δ P hT H0 H1 σ Q e env k => by
  refine h _ _ hT H1 H1 σ Q (Same.refl _) ⟨fun i d q => ?_, by rw [List.length_map]; exact env.len⟩ (kont_b e (Same.refl _) k)
  rw [List.getElem?_map] at q
  cases q2 : δ[i]? with
  | none => rw [q2] at q; cases q
  | some x =>
    rw [q2] at q
    cases x with
    | no => cases q
    | tr d' =>
      cases q
      obtain ⟨v, p, h1, h2⟩ := env.at_ i d' (by rw [q2]; rfl)
      exact ⟨v, [], h1, .one (.leaf (h2.frz e e fun a _ o ho => ho))⟩
theorem pd_bor {X : Cx} {e : Expr} {ua : TE} {ta : DE} (h : PEd X e ua ta) : PEd X e ua (dBor ta) := ⟨h.p, snd_bor h.s⟩
/-- e.f.pop(), e the i-th slot, an instance held there -/
def dPopF (K : PySem.W.Frag) (i : Nat) (f : Str) : DS := fun E δ => ∃ C gs ds d, δ[i]? = some (.tr (.oobj C gs)) ∧ FldOk K C f ∧ gs.lookup f = some (.olst (ds ++ [d])) ∧ E.nx (δ.set i (.tr (.oobj C (setFld gs f (.olst ds)))))
section
variable {X : Cx} {B He : Hp} {pos : Pos} {ua : TE} {ta : DE}
theorem sd_popF {i : Nat} {f : Str} {o : Expr} {fpos apos cpos : Pos} (ho : PE X o (tVar i)) (hbf : attributeBase o f X.env (eval o X.env) = eval o X.env := by rfl)
    (hbase : attributeBase (.Attribute o f fpos) "pop" X.env (eval (.Attribute o f fpos) X.env) = eval (.Attribute o f fpos) X.env := by rfl)
    (hline : (apos.endLine == cpos.line) = true := by rfl)
    (hsw : swapsWith (.Call (.Attribute (.Attribute o f fpos) "pop" apos) [] [] cpos) none pos.line X.env = pure false := by rfl) : PSd X B He (.Expr (.Call (.Attribute (.Attribute o f fpos) "pop" apos) [] [] cpos) pos) (dPopF X.K i f) := by
  refine ⟨_, ps_expr (pe_bm0 PySem.F.plainAttrs_list PySem.F.slot_list_pop PySem.F.type_list_pop mt_pop (pe_fld ho hbf) hbase hline) hsw, fun E δ h D H0 σ H L ok => ?_⟩
  obtain ⟨C, gs, ds, d, hq, hF, hl, hT⟩ := h
  obtain ⟨F, hf⟩ := ok.own
  obtain ⟨v, hv, o1⟩ := hf.is i _ hq
  obtain ⟨b, dx, fs, q, eF, rfl, hb, o2⟩ := o1.oobj'
  have nF := (hf.fresh i).1
  rw [eF] at nF
  obtain ⟨nb, nq⟩ := List.nodup_cons.mp nF
  obtain ⟨l, vs, k1, k2, k3, k4, k5⟩ := o2.app nq hl
  have lv : vs.length = ds.length + 1 := by
    rw [k4.len, List.length_append, List.length_cons, List.length_nil]
  have last : ∃ y, vs[vs.length - 1]? = some y := ⟨vs[vs.length - 1], List.getElem?_eq_getElem (by omega)⟩
  obtain ⟨y, hy⟩ := last
  have kd : RepL X.K H0 vs.dropLast ds := by
    have z := k4.tk ds.length
    rw [List.take_left] at z
    rw [List.dropLast_eq_take, lv]
    exact z
  refine ⟨.ref b, hv, b, C, dx, fs, .ref l, rfl, hb, hF.cls, hF.no, k1, tyL k3, l, vs, y, rfl, rfl, k3, hy, L.nx _ H0 _ _ hT ?_ (Same.refl _)⟩
  refine Holds.write ok hf (by rw [eF]; exact List.mem_cons_of_mem _ k2) hv (lt_of_get hq) ?_
  rw [eF]
  have hb4 : upd H l (.lst vs.dropLast) b = some (.ins C dx fs) := by
    rw [upd_ne fun z => nb (by rw [z]; exact k2)]
    exact hb
  exact Own.oobj hb4 (k5 _ _ kd)
end
end J
/-! J21: lists of lists held: made by a comprehension, one of them made longer -/
namespace J
open PySem PySem.Spec PyProof.Rows L2
section
variable {K : PySem.W.Frag} {H0 H : Hp}
theorem RepLL.snoc {a : Addr} {vs : List V} {ds : List D} (h1 : H a = some (.lst vs)) (h2 : RepL K H0 vs ds) : ∀ {as : List Addr} {dss : List (List D)}, RepLL K H0 H as dss → RepLL K H0 H (as ++ [a]) (dss ++ [ds])
  | _, _, .nil => .cons h1 h2 .nil
  | _, _, .cons g r t => .cons g r (t.snoc h1 h2)
theorem RepLL.upd {b : Addr} {vs' : List V} {ds' : List D} (h2 : RepL K H0 vs' ds') : ∀ {as : List Addr} {dss : List (List D)} {j : Nat}, RepLL K H0 H as dss → as.Nodup → as[j]? = some b → RepLL K H0 (L2.upd H b (.lst vs')) as (dss.set j ds')
  | _, _, _, .nil, _, e => by simp at e
  | _, _, 0, .cons g r t, nd, e => by
    cases e
    obtain ⟨n1, n2⟩ := List.nodup_cons.mp nd
    refine .cons upd_same h2 (t.mono (Same.refl _) fun c hc o ho => ?_)
    rw [upd_ne fun z => n1 (by rw [← z]; exact hc)]
    exact ho
  | _, _, j + 1, @RepLL.cons _ _ _ a _ _ as _ g r t, nd, e => by
    obtain ⟨n1, n2⟩ := List.nodup_cons.mp nd
    have e2 : as[j]? = some b := e
    refine .cons ?_ r (t.upd h2 n2 e2)
    rw [upd_ne fun z => n1 (by rw [z]; exact List.mem_of_getElem? e2)]
    exact g
end
/-! ### [[] for .. in ..], the lists held -/
def compGoM (j : Nat) (te : DE) (P : D → Prop) : List D → List (List D) → List DV → Prop
  | [], acc, _ => P (.mv (.oll acc))
  | d :: ds, acc, δ => te (δ.set j (.tr d)) fun y => ∃ es, y = .mv (.olst es) ∧ acc.length ≤ 100000 ∧ compGoM j te P ds (acc ++ [es]) δ
def dLcM (j : Nat) (Ti : DI) (te : DE) : DE := fun δ P => Ti δ fun ds => compGoM j te P ds [] δ
theorem compGoM_op {j : Nat} {te : DE} {P : D → Prop} {d : D} {ds : List D} {acc : List (List D)} {δ : List DV} (g : ∀ N, N = compGoM j te P ds → te (δ.set j (.tr d)) fun y => ∃ es, y = .mv (.olst es) ∧ acc.length ≤ 100000 ∧ N (acc ++ [es]) δ) : compGoM j te P (d :: ds) acc δ := g _ rfl
theorem snd_lcM {K : PySem.W.Frag} {j : Nat} {wi : TI} {Ti : DI} {tt : TT} {te : TE} {T : DE} (hi : SndI K wi Ti) (ht : SndT K tt dYes) (he : SndE K te T) : SndE K (tLc wi (gName j) tt te [j]) (dLcM j Ti T) := fun δ P h H0 H1 σ Q e env k => by
  refine hi δ _ h H0 H1 σ _ e env fun J ds G0 G hgo s wk => ?_
  intro Dl hD
  have nD1 : H1 Dl = none := s.e1.free hD
  have nD0 : H0 Dl = none := e.free nD1
  refine ⟨fun i m H' => m = ds.length - i ∧ i ≤ ds.length ∧ ∃ I0 acc as, Same G0 I0 ∧ Same I0 H' ∧ Step H0 H1 I0 H' ∧ EnvE K I0 H' δ σ ∧ H' Dl = some (.lst (as.map V.ref)) ∧ I0 Dl = none ∧ RepLL K I0 H' as acc ∧ (Dl :: as).Nodup ∧ (∀ a ∈ as, I0 a = none ∧ H1 a = none) ∧ compGoM j T P (ds.drop i) acc δ,
    ⟨_, rfl, Nat.zero_le _, G0, [], [], Same.refl _, s.e2.trans (same_new hD), s.grow (same_new hD), env.to s.e0 (s.e1.trans (same_new hD)), upd_same, s.e2.free hD, .nil, List.nodup_cons.mpr ⟨List.not_mem_nil, List.nodup_nil⟩, (fun a ha => absurd ha List.not_mem_nil), hgo⟩, ?_⟩
  rintro i m H' ⟨rfl, hi, I0, acc, as, e0, e1, s0, env', hDl, nD, rl, nd, fr, go⟩
  have eH : Same G0 H' := e0.trans e1
  by_cases hlt : i < ds.length
  · refine .inr ⟨wk.go i H' eH hlt, fun H2 => ∃ I0 acc as, Same G0 I0 ∧ Same I0 H2 ∧ Step H0 H1 I0 H2 ∧ EnvE K I0 H2 δ σ ∧ H2 Dl = some (.lst (as.map V.ref)) ∧ I0 Dl = none ∧ RepLL K I0 H2 as acc ∧ (Dl :: as).Nodup ∧ (∀ a ∈ as, I0 a = none ∧ H1 a = none) ∧ compGoM j T P (ds.drop (i + 1)) acc δ, fun H2 w => ⟨ds.length - (i + 1), by omega, rfl, hlt, w⟩, fun x H2 y => ?_⟩
    have hd : ds[i]? = some ds[i] := List.getElem?_eq_getElem hlt
    obtain ⟨I1, s1, r1⟩ := wk.yld i H' x H2 _ eH y hd I0 e0 e1
    rw [List.drop_eq_getElem_cons hlt] at go
    have env2 := env_set (j := j) (env'.to s1.e0 s1.e1) r1
    refine ⟨?_, ht _ (fun b => b = true) rfl I1 H2 _ _ s1.e2 env2 fun b A hb sA => ?_⟩
    · show (((σ.set j none).set j (some x)).set j none) = σ.set j none
      rw [List.set_set, List.set_set]
    have sA1 : Step I0 H' I1 A := s1.grow sA
    subst hb
    rw [if_pos rfl]
    refine he _ _ go I1 A _ _ (s1.e2.trans sA) (env2.to (Same.refl _) sA) fun u z A0 A2 hz s2 r2 => ?_
    obtain ⟨es, rfl, hl, hgo2⟩ := hz
    have s3 : Step I0 H' A0 A2 := sA1.trans s2
    have k1 := s3.e1 _ _ hDl
    have k2 : A0 Dl = none := step_none s3 hDl nD
    have nH1 : ∀ o, H1 Dl = some o → False := fun o q => by rw [nD1] at q; cases q
    obtain ⟨p, ow, nf, ff⟩ := r2
    obtain ⟨b, vs, rfl, rfl, hb, hr⟩ := ow.olst
    have fb := ff b List.mem_cons_self
    have asA : ∀ a ∈ as, ∃ o, A a = some o := fun a ha => by
      obtain ⟨o, ho⟩ := rl.there a ha
      exact ⟨o, sA1.e1 a o ho⟩
    have nb : b ≠ Dl := fun z => by
      have w := sA1.e1 _ _ hDl
      rw [← z, fb.2] at w
      cases w
    have nbs : b ∉ as := fun z => by
      obtain ⟨o, ho⟩ := asA b z
      rw [fb.2] at ho
      cases ho
    obtain ⟨d1, d2⟩ := List.nodup_cons.mp nd
    refine ⟨as.map V.ref, k1, sz6 (by rw [List.length_map, rl.len]; exact hl), A0, acc ++ [es], as ++ [b], e0.trans s3.e0, fun a o q => ?_, ?_, ?_, by rw [upd_same, List.map_append]; rfl, k2, ?_, ?_, ?_, hgo2⟩
    · rw [upd_ne fun z => by rw [z, k2] at q; cases q]
      exact s3.e2 a o q
    · have s4 := s0.trans s3
      exact ⟨fun a o q => by rw [upd_ne (fun z => nH1 o (by rw [← z]; exact q))]; exact s4.e1 a o q, s4.e0, fun a o q => by rw [upd_ne (fun z => by rw [z, k2] at q; cases q)]; exact s4.e2 a o q, s4.fr⟩
    · refine ⟨fun i' d' q' => ?_, env.len⟩
      obtain ⟨u', p', a', b'⟩ := env.at_ i' d' q'
      have s4 := s0.trans s3
      refine ⟨u', p', a', b'.mono s4.e0 fun y hy o ho => ?_⟩
      rw [upd_ne (fun z => nH1 o (by rw [← z]; exact ho))]
      exact s4.e1 y o ho
    · refine RepLL.snoc (by rw [upd_ne nb]; exact hb) hr (rl.mono s3.e0 fun a ha o ho => ?_)
      rw [upd_ne fun z => d1 (by rw [← z]; exact ha)]
      exact s3.e1 a o ho
    · rw [← List.cons_append]
      refine List.nodup_append.mpr ⟨nd, List.nodup_cons.mpr ⟨List.not_mem_nil, List.nodup_nil⟩, fun a ha c hc z => ?_⟩
      rw [List.mem_singleton.mp hc] at z
      rcases List.mem_cons.mp ha with w | w
      · exact nb (z.symm.trans w)
      · exact nbs (by rw [← z]; exact w)
    · intro a ha
      rcases List.mem_append.mp ha with z | z
      · obtain ⟨o, ho⟩ := rl.there a z
        exact ⟨step_none s3 ho (fr a z).1, (fr a z).2⟩
      · rw [List.mem_singleton.mp z]
        exact ⟨fb.1, (s0.trans sA1).e1.free fb.2⟩
  · have ei : i = ds.length := by omega
    subst ei
    rw [List.drop_length] at go
    refine .inl ⟨wk.stop H' eH, k _ _ I0 H' go s0 ⟨Dl :: as, .one (.oll hDl rl), nd, fun a ha => ?_⟩⟩
    rcases List.mem_cons.mp ha with z | z
    · rw [z]
      exact ⟨nD, nD1⟩
    · exact fr a z
section
variable {X : Cx} {B He : Hp} {st : Stmt} {pos : Pos} {e a : Expr} {ta tj : DE} {ua uj : TE}
theorem pd_lcM {elt iter : Expr} {ifs : List Expr} {scope : Scope} {x : Str} {j : Nat} {p : Pos} {wi : TI} {Ti : DI} {tt : Shared → Hp → Addr → List (Str × Addr) → List Addr → TT} {te : Shared → Hp → Addr → List (Str × Addr) → List Addr → TE} {T : DE} (hc : X.calm = true) (nd : X.N.Nodup) (hi : PId X (.Name x p) iter wi Ti) (ok : BlkOk X.N X.env.scope scope [(x, j)])
    (hg : ∀ (s : Shared) (H : Hp) (C : Addr) (cl : List (Str × Addr)) (fp : List Addr), PG (Blk X scope s H C cl fp) (.Name x p) (gName j)) (ht : ∀ (s : Shared) (H : Hp) (C : Addr) (cl : List (Str × Addr)) (fp : List Addr), PTsd (Blk X scope s H C cl fp) ifs (tt s H C cl fp) dYes)
    (he : ∀ (s : Shared) (H : Hp) (C : Addr) (cl : List (Str × Addr)) (fp : List Addr), PEd (Blk X scope s H C cl fp) elt (te s H C cl fp) T) (hs : ∀ x, foldedSetIterable iter X.env x = pure x := by intro _; rfl) :
    PEd X (.ListComp elt [⟨.Name x p, iter, ifs, 0⟩] scope pos) (tLc wi (gName j) (allT tt) (allE te) [j]) (dLcM j Ti T) :=
  ⟨pe_lc (own := [(x, j)]) hc nd hi.p ok hg (fun s H C cl fp => pts_all (ht s H C cl fp).p) (fun s H C cl fp => pe_all (he s H C cl fp).p) hs,
    snd_lcM hi.s (snd_allT fun s H C cl fp => (ht s H C cl fp).s) (snd_allE fun s H C cl fp => (he s H C cl fp).s)⟩
theorem sd_setLcM {elt iter : Expr} {ifs : List Expr} {scope : Scope} {x y : Str} {i j : Nat} {p py : Pos} {spos : Pos} {wi : TI} {Ti : DI} {tt : Shared → Hp → Addr → List (Str × Addr) → List Addr → TT} {te : Shared → Hp → Addr → List (Str × Addr) → List Addr → TE} {T : DE} (hc : X.calm = true) (nd : X.N.Nodup) (hi : PId X (.Name x p) iter wi Ti) (ok : BlkOk X.N X.env.scope scope [(x, j)])
    (hg : ∀ (s : Shared) (H : Hp) (C : Addr) (cl : List (Str × Addr)) (fp : List Addr), PG (Blk X scope s H C cl fp) (.Name x p) (gName j)) (ht : ∀ (s : Shared) (H : Hp) (C : Addr) (cl : List (Str × Addr)) (fp : List Addr), PTsd (Blk X scope s H C cl fp) ifs (tt s H C cl fp) dYes)
    (he : ∀ (s : Shared) (H : Hp) (C : Addr) (cl : List (Str × Addr)) (fp : List Addr), PEd (Blk X scope s H C cl fp) elt (te s H C cl fp) T) (hsw : swapsWith (.ListComp elt [⟨.Name x p, iter, ifs, 0⟩] scope pos) (some (.Name y py)) spos.line X.env = pure true) (hy : X.N[i]? = some y := by rfl) (hyl : X.env.scope.names.lookup y = some .local := by rfl)
    (hs : ∀ x, foldedSetIterable iter X.env x = pure x := by intro _; rfl) : PSd X B He (.Assign [.Name y py] (.ListComp elt [⟨.Name x p, iter, ifs, 0⟩] scope pos) spos) (dSet i (dLcM j Ti T)) :=
  sd_asg (ps_setLc (own := [(x, j)]) hc nd hy hyl hsw hi.p ok hg (fun s H C cl fp => pts_all (ht s H C cl fp).p) (fun s H C cl fp => pe_all (he s H C cl fp).p) hs)
    (snd_lcM hi.s (snd_allT fun s H C cl fp => (ht s H C cl fp).s) (snd_allE fun s H C cl fp => (he s H C cl fp).s))

/-! ### x[i].append(a), x a list of lists held here -/
theorem Own.oll' {K : PySem.W.Frag} {H0 H1 : Hp} {p : List Addr} {v : V} {dss : List (List D)} (h : Own K H0 H1 p v (.oll dss)) : ∃ a as, p = a :: as ∧ v = .ref a ∧ H1 a = some (.lst (as.map V.ref)) ∧ RepLL K H0 H1 as dss := by
  cases h with
  | one r =>
    cases r with
    | leaf r => cases r
    | oll g t => exact ⟨_, _, rfl, rfl, g, t⟩
theorem refs_inj : ∀ {as bs : List Addr}, as.map V.ref = bs.map V.ref → as = bs
  | [], [], _ => rfl
  | [], _ :: _, h => by cases h
  | _ :: _, [], h => by cases h
  | a :: as, b :: bs, h => by
    rw [List.map_cons, List.map_cons, List.cons.injEq] at h
    rw [V.ref.inj h.1, refs_inj h.2]
def dAppI (i : Nat) (tj ta : DE) : DS := fun E δ => ∃ dss, δ[i]? = some (.tr (.oll dss)) ∧ tj δ fun y => asI y fun n => ∃ k ds, ixN dss.length n = some k ∧ dss[k]? = some ds ∧ ds.length ≤ 100000 ∧ ta δ fun x => x.plain = true ∧ E.nx (δ.set i (.tr (.oll (dss.set k (ds ++ [x])))))
theorem sd_appI {i : Nat} {o b a : Expr} {ipos apos cpos : Pos} (ho : PE X o (tVar i)) (hb : PEd X b uj tj) (ha : PEd X a ua ta) (hsi : PlainIx b := by exact fun _ _ => rfl)
    (hbase : attributeBase (.Subscript o b ipos) "append" X.env (eval (.Subscript o b ipos) X.env) = eval (.Subscript o b ipos) X.env := by rfl)
    (hfew : ((backTo cpos (starEach (a :: []) X.env)).all (fun x => !x.1) && (backToKw cpos (keywordEach [] X.env)).all (fun x => x.1.isSome)
      && decide ((a :: []).length + ([] : List Keyword).length + (if ([] : List Keyword).isEmpty then 0 else 1) < 30)) = true := by rfl)
    (hline : (apos.endLine == cpos.line) = true := by rfl) (hs : starEach (a :: []) X.env = (false, eval a X.env) :: starEach [] X.env := by rfl) (hplain : (backTo cpos (starEach [] X.env)).any (·.1) = false := by rfl)
    (hsw : swapsWith (.Call (.Attribute (.Subscript o b ipos) "append" apos) [a] [] cpos) none pos.line X.env = pure false := by rfl) : PSd X B He (.Expr (.Call (.Attribute (.Subscript o b ipos) "append" apos) [a] [] cpos) pos) (dAppI i tj ta) := by
  obtain ⟨a1, a2⟩ := ha
  obtain ⟨b1, b2⟩ := hb
  refine ⟨_, ps_expr (pe_bm PySem.F.plainAttrs_list PySem.F.slot_list_append PySem.F.type_list_append mt_append (pe_ix ix_list ho b1 hsi) (pa_cons a1 pa_nil hs) hbase hfew hline hs hplain) hsw, fun E δ h D H0 σ H L ok => ?_⟩
  obtain ⟨dss, hq, hT⟩ := h
  obtain ⟨f, hf⟩ := ok.own
  obtain ⟨v, hv, o1⟩ := hf.is i _ hq
  obtain ⟨l, as, ef, rfl, hl, hr⟩ := o1.oll'
  refine ⟨.ref l, hv, b2 δ _ hT H0 H σ _ ok.st.e2 ok.env fun w y G0 G hy s ry => ?_⟩
  obtain ⟨n, rfl, k, ds, hk, hd, hz, hT2⟩ := asI_inv hy
  have ok2 := ok.to s
  obtain ⟨f2, hf2⟩ := ok2.own
  obtain ⟨v2, hv2, o2⟩ := hf2.is i _ hq
  rw [hv] at hv2
  have ev : V.ref l = v2 := Option.some.inj (Option.some.inj hv2)
  subst ev
  obtain ⟨l2, as2, ef2, el, hl2, hr2⟩ := o2.oll'
  cases el
  obtain ⟨b, vs, hb1, hb2, hb3⟩ := hr2.at hd
  refine ⟨l, _, n, .ref b, rfl, res_int ry, .of hl2, ?_, tyL hb2, a2 δ _ hT2 G0 G σ _ ok2.st.e2 ok2.env fun u x I0 I hx s2 r2 => ?_⟩
  · unfold L2.atI
    rw [List.length_map, hr2.len, hk]
    show (as2.map V.ref)[k]? = _
    rw [List.getElem?_map, hb1] <;> rfl
  have ok3 := ok2.to s2
  obtain ⟨f3, hf3⟩ := ok3.own
  obtain ⟨v3, hv3, o3⟩ := hf3.is i _ hq
  rw [hv] at hv3
  have ev : V.ref l = v3 := Option.some.inj (Option.some.inj hv3)
  subst ev
  obtain ⟨l3, as3, ef3, el, hl3, hr3⟩ := o3.oll'
  cases el
  have eas : as2 = as3 := by
    have z := s2.e1 _ _ hl2
    rw [hl3] at z
    exact (refs_inj (HO.lst.inj (Option.some.inj z))).symm
  subst eas
  obtain ⟨b3, ws, hc1, hc2, hc3⟩ := hr3.at hd
  rw [hb1] at hc1
  cases hc1
  have nF := (hf3.fresh i).1
  rw [ef3] at nF
  obtain ⟨nl, nd3⟩ := List.nodup_cons.mp nF
  have mb := List.mem_of_getElem? hb1
  refine ⟨b, ws, u, rfl, rfl, hc2, sz6 (by rw [hc3.len]; exact hz), L.nx _ I0 _ _ hx.2 ?_ (s.e0.trans s2.e0)⟩
  refine Holds.write ok3 hf3 (by rw [ef3]; exact List.mem_cons_of_mem _ mb) hv (lt_of_get hq) ?_
  rw [ef3]
  refine .one (.oll ?_ (hr3.upd (hc3.app (.cons (r2.rep_of hx.1) .nil)) nd3 hb1))
  rw [upd_ne fun z => nl (by rw [z]; exact mb)]
  exact hl3

/-! ### x.f[i].append(a), x an instance held here -/
theorem OwnF.appLL {K : PySem.W.Frag} {H0 H : Hp} {f : Str} {dss : List (List D)} : ∀ {p : List Addr} {fs : List (Str × V)} {gs : List (Str × D)}, OwnF K H0 H p fs gs → p.Nodup → gs.lookup f = some (.oll dss) → ∃ a as, fs.lookup f = some (.ref a) ∧ (∀ b ∈ as, b ∈ p) ∧ H a = some (.lst (as.map V.ref)) ∧ RepLL K H0 H as dss ∧
    ∀ (k : Nat) b vs' ds', as[k]? = some b → RepL K H0 vs' ds' → OwnF K H0 (L2.upd H b (.lst vs')) p fs (setFld gs f (.oll (dss.set k ds')))
  | _, _, _, .nil, _, h => by cases h
  | _, (_, v) :: fs, (x, d) :: gs, @OwnF.cons _ _ _ _ _ _ _ _ p q h1 t, nd, h => by
    obtain ⟨n1, n2, n3⟩ := List.nodup_append.mp nd
    rw [List.lookup_cons] at h
    cases e : (f == x) with
    | true =>
      rw [e] at h
      cases h
      cases h1 with
      | leaf r => cases r
      | oll g r =>
        rename_i a as
        obtain ⟨m1, m2⟩ := List.nodup_cons.mp n1
        refine ⟨_, _, by rw [List.lookup_cons, e], fun b hb => List.mem_append_left _ (List.mem_cons_of_mem _ hb), g, r, fun k b vs' ds' hb r' => ?_⟩
        have mb := List.mem_of_getElem? hb
        unfold setFld
        rw [e]
        refine .cons (.oll ?_ (r.upd r' m2 hb)) (t.mono (Same.refl _) fun c hc o ho => ?_)
        · rw [upd_ne fun z => m1 (by rw [z]; exact mb)]
          exact g
        · rw [upd_ne fun z => n3 _ (List.mem_cons_of_mem _ mb) c hc z.symm]
          exact ho
    | false =>
      rw [e] at h
      obtain ⟨a, as, k1, k2, k3, k4, k5⟩ := t.appLL n2 h
      refine ⟨a, as, by rw [List.lookup_cons, e]; exact k1, fun b hb => List.mem_append_right _ (k2 b hb), k3, k4, fun k b vs' ds' hb r' => ?_⟩
      have mb := List.mem_of_getElem? hb
      unfold setFld
      rw [e]
      refine .cons (h1.mono (Same.refl _) fun c hc o ho => ?_) (k5 k b vs' ds' hb r')
      rw [upd_ne fun z => n3 c hc b (k2 b mb) z]
      exact ho
def dAppFI (K : PySem.W.Frag) (i : Nat) (f : Str) (tj ta : DE) : DS := fun E δ => ∃ C gs dss, δ[i]? = some (.tr (.oobj C gs)) ∧ FldOk K C f ∧ gs.lookup f = some (.oll dss) ∧ tj δ fun y => asI y fun n => ∃ k ds, ixN dss.length n = some k ∧ dss[k]? = some ds ∧ ds.length ≤ 100000 ∧ ta δ fun x => x.plain = true ∧ E.nx (δ.set i (.tr (.oobj C (setFld gs f (.oll (dss.set k (ds ++ [x])))))))
theorem sd_appFI {i : Nat} {f : Str} {o b a : Expr} {fpos ipos apos cpos : Pos} (ho : PE X o (tVar i)) (hb : PEd X b uj tj) (ha : PEd X a ua ta) (hbf : attributeBase o f X.env (eval o X.env) = eval o X.env := by rfl) (hsi : PlainIx b := by exact fun _ _ => rfl)
    (hbase : attributeBase (.Subscript (.Attribute o f fpos) b ipos) "append" X.env (eval (.Subscript (.Attribute o f fpos) b ipos) X.env) = eval (.Subscript (.Attribute o f fpos) b ipos) X.env := by rfl)
    (hfew : ((backTo cpos (starEach (a :: []) X.env)).all (fun x => !x.1) && (backToKw cpos (keywordEach [] X.env)).all (fun x => x.1.isSome)
      && decide ((a :: []).length + ([] : List Keyword).length + (if ([] : List Keyword).isEmpty then 0 else 1) < 30)) = true := by rfl)
    (hline : (apos.endLine == cpos.line) = true := by rfl) (hs : starEach (a :: []) X.env = (false, eval a X.env) :: starEach [] X.env := by rfl) (hplain : (backTo cpos (starEach [] X.env)).any (·.1) = false := by rfl)
    (hsw : swapsWith (.Call (.Attribute (.Subscript (.Attribute o f fpos) b ipos) "append" apos) [a] [] cpos) none pos.line X.env = pure false := by rfl) : PSd X B He (.Expr (.Call (.Attribute (.Subscript (.Attribute o f fpos) b ipos) "append" apos) [a] [] cpos) pos) (dAppFI X.K i f tj ta) := by
  obtain ⟨a1, a2⟩ := ha
  obtain ⟨b1, b2⟩ := hb
  refine ⟨_, ps_expr (pe_bm PySem.F.plainAttrs_list PySem.F.slot_list_append PySem.F.type_list_append mt_append (pe_ix ix_list (pe_fld ho hbf) b1 hsi) (pa_cons a1 pa_nil hs) hbase hfew hline hs hplain) hsw, fun E δ h D H0 σ H L ok => ?_⟩
  obtain ⟨C, gs, dss, hq, hF, hl, hT⟩ := h
  obtain ⟨F, hf⟩ := ok.own
  obtain ⟨v, hv, o1⟩ := hf.is i _ hq
  obtain ⟨c, dx, fs, q, eF, rfl, hc, o2⟩ := o1.oobj'
  have nF := (hf.fresh i).1
  rw [eF] at nF
  obtain ⟨l, as, k1, k2, k3, k4, _⟩ := o2.appLL (List.nodup_cons.mp nF).2 hl
  refine ⟨.ref c, hv, c, C, dx, fs, .ref l, rfl, hc, hF.cls, hF.no, k1, b2 δ _ hT H0 H σ _ ok.st.e2 ok.env fun w y G0 G hy s ry => ?_⟩
  obtain ⟨n, rfl, k, ds, hk, hd, hz, hT2⟩ := asI_inv hy
  have ok2 := ok.to s
  have kl2 := s.e1 _ _ k3
  have hr2 : RepLL X.K G0 G as dss := k4.mono s.e0 fun a _ o ho => s.e1 a o ho
  obtain ⟨b, vs, hb1, hb2, hb3⟩ := hr2.at hd
  refine ⟨l, _, n, .ref b, rfl, res_int ry, .of kl2, ?_, tyL hb2, a2 δ _ hT2 G0 G σ _ ok2.st.e2 ok2.env fun u x I0 I hx s2 r2 => ?_⟩
  · unfold L2.atI
    rw [List.length_map, hr2.len, hk]
    show (as.map V.ref)[k]? = _
    rw [List.getElem?_map, hb1] <;> rfl
  have ok3 := ok2.to s2
  obtain ⟨F3, hf3⟩ := ok3.own
  obtain ⟨v3, hv3, o3⟩ := hf3.is i _ hq
  rw [hv] at hv3
  have ev : V.ref c = v3 := Option.some.inj (Option.some.inj hv3)
  subst ev
  obtain ⟨c3, dx3, fs3, q3, eF3, ec, hc3, o4⟩ := o3.oobj'
  cases ec
  have hcI := s2.e1 _ _ (s.e1 _ _ hc)
  rw [hcI] at hc3
  cases hc3
  have nF3 := (hf3.fresh i).1
  rw [eF3] at nF3
  obtain ⟨nc, nq⟩ := List.nodup_cons.mp nF3
  obtain ⟨l3, as3, j1, j2, j3, j4, j5⟩ := o4.appLL nq hl
  rw [k1] at j1
  cases j1
  have eas : as = as3 := by
    have z := s2.e1 _ _ kl2
    rw [j3] at z
    exact (refs_inj (HO.lst.inj (Option.some.inj z))).symm
  subst eas
  obtain ⟨b3, ws, hc1, hc2, hc4⟩ := j4.at hd
  rw [hb1] at hc1
  cases hc1
  have mb := List.mem_of_getElem? hb1
  refine ⟨b, ws, u, rfl, rfl, hc2, sz6 (by rw [hc4.len]; exact hz), L.nx _ I0 _ _ hx.2 ?_ (s.e0.trans s2.e0)⟩
  refine Holds.write ok3 hf3 (by rw [eF3]; exact List.mem_cons_of_mem _ (j2 b mb)) hv (lt_of_get hq) ?_
  rw [eF3]
  have hb4 : L2.upd I b (.lst (ws ++ [u])) c = some (.ins C dx fs) := by
    rw [upd_ne fun z => nc (by rw [z]; exact j2 b mb)]
    exact hcI
  exact Own.oobj hb4 (j5 k b _ _ hb1 (hc4.app (.cons (r2.rep_of hx.1) .nil)))
end
end J
/-! J22: an own exception with a field: made, raised, caught, asked -/
namespace J
open PySem PySem.Spec PyProof.Rows L2
/-! ### isinstance of a caught one that has a dict -/
section
variable {prog : Program} {w : World} {A : Around} {E : Value → Shared → Prop} {s : Shared} {K : PySem.W.Frag} {x D : Addr} {ox : Obj} {od : Obj}
open PySem.W in
theorem kin_classD {Q : Option Value → Shared → Prop} (C : ExcC K D) (X : K.In s.heap) (I : PySem.W.InstAt s.heap x ox D (some od)) (h : Q (some (.ref D)) { s with toks := s.toks + 1 }) : wpAny (model prog w) A (getAttr? (.ref x) "__class__") Q E s := by
  obtain ⟨hga, hgt, hsub, hdct, ha, hn, htk, hm⟩ := C
  have hf : findObj K D (some od) "__class__" = some (.bind (.builtin "getset_descriptor.__get__") (.builtin "object.__class__")) := findObj_data (by obtain ⟨cd, hc, _⟩ := any_some hdct; rw [hc]; rfl) ha hn htk
  obtain ⟨hp, g, d, t, os⟩ := s
  have L0 := I.type (M := model prog w)
  have L1 := looks_findIn (M := model prog w) X hga
  have L2 := looks_findIn (M := model prog w) X hgt
  have L3 := looks_find (M := model prog w) X I hf
  have sub : Looks (model prog w) hp (isInstance (.ref x) (.type "BaseException")) true := L0.andThen (looks_subIn X hsub)
  have hx0 : (false && onTheHeap (Value.builtin "BaseException.__getattribute__")) = false := rfl
  have hx2 : (Value.builtin "BaseException.__getattribute__" == Value.builtin "object.__getattribute__") = false := by decide +kernel
  have hx1 : (onTheHeap (Value.ref D) && Value.builtin "BaseException.__getattribute__" == Value.builtin "object.__getattribute__") = false := by rw [hx2]; rfl
  unfold getAttr? getAttrBy? getAttrBy
  refine wpAny_bind (wpAny_mkText (wpAny_bind (wpAny_attempt (wpAny_holding (wpAny_bind (L0.at (wpAny_bind (L1.at ?_))))))))
  show wpAny _ _ (if (onTheHeap (Value.ref D) && Value.builtin "BaseException.__getattribute__" == Value.builtin "object.__getattribute__") = true then _ else _) _ _ _
  rw [hx1, if_neg Bool.false_ne_true]
  unfold getAttrByItsOwn hookBefore
  refine wpAny_bind ?_
  rw [if_pos (show onTheHeap (Value.ref D) = true from rfl)]
  refine L2.at ?_
  refine wpAny_bind (wpAny_attempt (wpAny_holding ?_))
  unfold callGetattribute
  rw [hx0, if_neg Bool.false_ne_true]
  unfold boundAndCalled
  rw [PySem.F.excAttr_ValueError.ga.bind (.ref x)]
  refine wpAny_bind (wpAny_pure ?_)
  show wpAny _ _ (call (.builtin "BaseException.__getattribute__") [.ref x, .str "__class__" t]) _ _ _
  refine wpAny_call (codeAny_call_builtin PySem.F.excAttr_ValueError.ga.plain PySem.F.entry_bexc_ga ?_)
  refine @check_slot (model prog w) _ _ ⟨hp, g, d, t + 1, os⟩ "BaseException.__getattribute__" "BaseException" "__getattribute__" (.ref x) [.str "__class__" t] [] _ (by decide +kernel) (by decide +kernel) sub (PySem.F.args_bexc_ga (.ref x) (.str "__class__" t)) ?_
  unfold Builtin.«object.__getattribute__»
  refine wpAny_bind (wpAny_of_eq (a := ((Value.ref x : Value), [Value.str "__class__" t])) (by first | rfl | (simp only [slotArgs]; rfl)) ?_)
  refine wpAny_bind (wpAny_pure (wpAny_bind (L0.at (wpAny_bind (L3.at ?_)))))
  show wpAny _ _ (holding [Value.builtin "object.__class__"] (call (.builtin "getset_descriptor.__get__") [.builtin "object.__class__", .ref x, .ref D]) >>= ret) _ _ _
  refine wpAny_bind (wpAny_holding (wpAny_call (class_get (s := ⟨hp, g, d, t + 1, os⟩) (ox := ox) (od := some od) X I hm ?_)))
  refine wpAny_pure ?_
  show wpAny _ _ (handedOut (.ref D)) _ _ _
  rw [handedOut_of (v := .ref D) rfl]
  first
    | exact wpAny_pure (wpAny_pure h)
    | exact wpAny_pure h
    | exact wpAny_pure (wpAny_bind (wpAny_pure (wpAny_pure h)))
open PySem.W in
theorem kitx_excD (C : ExcC K D) : KitX K (.ref x) (.ref D) (fun h => ∃ od, PySem.W.InstAt h x ox D (some od)) where
  ty := fun _ _ _ ⟨_, I⟩ => I.type
  it := fun _ _ X _ => by
    obtain ⟨cdD, hcD, _⟩ := any_some C.hd
    unfold clsIn at hcD
    split at hcD
    · rename_i c' d' cd' sl' ho
      intro A' Q' E' s' k q
      unfold isType loadHead
      exact wpAny_bind (wpAny_loadPart (k _ _ (X _ _ ho)) (wpAny_pure q))
    · cases hcD
  ne := fun h tp dd its n sl X htp => by
    obtain ⟨cdD, hcD, _⟩ := any_some C.hd
    refine Bool.eq_false_iff.mpr fun q => ?_
    have e : D = tp := Value.ref.inj (beq_iff_eq.mp q)
    subst e
    unfold clsIn at hcD
    split at hcD
    · rename_i c' d' cd' sl' ho
      have z := (X _ _ ho).symm.trans htp
      cases z
    · cases hcD
  ca := fun X ⟨_, I⟩ k => kin_classD C X I k
end
/-- isinstance(e, c), e the exception that the suite holds, its class cls, its dict at d -/
def rIsD (K : PySem.W.Frag) (D a : Addr) (cls : Value) (d : Option Addr) : List V → Hp → VK → Prop := fun xs H Q => cls = .ref D ∧ ∃ (dd : Addr) (c : V) (cv : Value) (b : Bool) (fs : List (Str × V)), d = some dd ∧ xs = [.ref a, c] ∧ H dd = some (.xd fs) ∧ (∀ u, RelV c u → u = cv) ∧ PySem.W.kitOne K (.ref D) cv = some b ∧ Q (.bl b) H
theorem call_isD {X : Cx} {a D : Addr} {cls : Value} {d : Option Addr} {oe : Obj} {pn : List (Addr × Obj)} (C : ExcC X.K D) (hz : Zc cls d oe) (hf : ∃ vs, oe.data = .fields vs) : CallR (X.suite a ((a, oe) :: pn)) (.builtin "isinstance") (rIsD X.K D a cls d) := by
  intro pins s σ H xs us Q I r h
  obtain ⟨rfl, dd, c, cv, b, fs, rfl, rfl, hd, hcv, e, q⟩ := h
  cases r with
  | cons rx rr =>
    cases rr with
    | cons rt rr =>
      cases rr
      cases rx
      have ec := hcv _ rt
      subst ec
      obtain ⟨hget, _⟩ := I.pin (a, oe) (List.mem_append.mpr (.inl List.mem_cons_self))
      obtain ⟨vs, hv⟩ := hf
      have hx : ObjOk X.prog X.w H s.heap dd (.xd fs) := I.hok dd _ hd
      obtain ⟨mA, hns, hr⟩ := hx
      obtain ⟨od, ho, hl⟩ := lookIn_ns hns
      have J : PySem.W.InstAt s.heap a oe D (some od) := ⟨hget, hz.1, by unfold PySem.W.notCls; rw [hv] <;> rfl, by rw [hz.2]; exact ho⟩
      exact PySem.W.kia_one (kitx_excD C) I.kIn ⟨_, J⟩ e (fun z => nomatch z) fun tk => ⟨.bl b, H, I.kept (t' := tk) fun _ _ z => z, rfl, q⟩

/-! ### any(..) while an exception is handled -/
section
variable {prog : Program} {w : World} {A : Around} {E : Value → Shared → Prop} {s : Shared}
theorem next_end_hot {it l x1 : Addr} {i : Nat} {items : Array Value} {Q : Option Value → Shared → Prop} (hot : HotX.HotAt A x1 s.heap) (hne : x1 ≠ it)
    (hit : s.heap.IsListIter it l i) (hl : s.heap.IsList l items) (hx : items[i]? = none)
    (hQ : ∀ h', (∀ b o, b ≠ it → s.heap.get? b = some o → h'.get? b = some o) → Q none { s with heap := h' }) : wpAny (model prog w) A (pyNext (.ref it)) Q E s := by
  obtain ⟨o, ho, hc, hd⟩ := id hit
  obtain ⟨ol, hol, _, nl, hdl⟩ := hl
  obtain ⟨hh, o1, vs1, h1, d1, c1⟩ := hot
  unfold pyNext
  refine wpAny_bind (wpAny_attempt (wpAny_callSpecial?_slot (name := Str.ofString "__next__") hit.typeIs slot_listiter_next
    (wpAny_call_entry slot_listiter_next hit.typeIs entry_listiter_next ?_ (args_listiter_next _))))
  show wpAny _ _ (field (.ref it) 0 >>= _) _ _ s
  refine wpAny_bind (wpAny_field ho hd (x := .ref l) rfl ?_)
  show wpAny _ _ (if (Value.ref l == Value.none) = true then _ else _) _ _ s
  rw [if_neg (show ¬ ((Value.ref l == Value.none) = true) from Bool.false_ne_true)]
  show wpAny _ _ (field (.ref it) 1 >>= _) _ _ s
  refine wpAny_bind (wpAny_field ho hd (x := .int i 0) rfl ?_)
  show wpAny _ _ (seqItems? (.ref l) >>= _) _ _ s
  refine wpAny_bind (wpAny_seqItems hol hdl ?_)
  simp only [Int.toNat_natCast, hx]
  refine wpAny_bind (wpAny_rule (wpAny_bind (wpAny_setField ho hd (by simp) ?_)))
  have keep0 : ∀ b o, b ≠ it → s.heap.get? b = some o → (s.heap.update it (Obj.mapFields (·.setIfInBounds 0 Value.none))).get? b = some o := fun b o hb e => (Heap.get?_update_other _ _ (Ne.symm hb)).trans e
  show wpAny _ _ (newExc (.type "StopIteration") [] >>= _) _ _ _
  refine wpAny_bind ?_
  simp only [newExc, newTuple]
  refine wpAny_bind (wpAny_newObj_type ?_ (by size_fits))
  refine wpAny_bind (m := firstArgMember _ _) (wpAny_of_eq (a := Value.none) (by first | rfl | (simp only [firstArgMember]; rfl)) ?_)
  refine wpAny_newObj_type ?_ (by size_fits)
  have keep1 := keep0 x1 o1 hne h1
  refine HotX.raiseNew_hot ⟨hh, o1, vs1, Heap.get?_push_of_some _ (Heap.get?_push_of_some _ keep1), d1, c1⟩ (Nat.ne_of_lt (Heap.lt_size (Heap.get?_push_of_some _ keep1))) (Heap.get?_push_size _ rfl) rfl (by first | (simp; done) | (simp; omega) | (simp only [Array.size_append]; simp; omega)) ?_
  refine wpAny_bind (wpAny_isInstance (T := "StopIteration") (b := true) ⟨_, Heap.get?_update_self _ (Heap.get?_push_size _ rfl) rfl, rfl⟩ isSubtype_stop ?_)
  refine wpAny_pure (hQ _ fun b o hb e => ?_)
  have k := keep0 b o hb e
  rw [Heap.get?_update_other _ _ (Nat.ne_of_gt (Heap.lt_size (Heap.get?_push_of_some _ k)))]
  exact Heap.get?_push_of_some _ (Heap.get?_push_of_some _ k)
theorem walks_listHot {x1 : Addr} {o1 : Obj} {vs1 : Array Value} (hh : A.handled = some (.ref x1)) (d1 : o1.data = .fields vs1) (c1 : vs1[2]? = some .none) (I ax : Addr) (hne : ax ≠ I) (hn1 : x1 ≠ I) (items : Array Value) :
    Walks prog w A I [I, ax, x1] [I] items.size (fun i v => items[i]? = some v) (fun i h => (h.IsListIter I ax i ∧ h.IsList ax items) ∧ h.get? x1 = some o1) where
  sub := fun b hb => by simp at hb; simp [hb]
  frame := fun _ _ _ st hk => ⟨⟨st.1.1.at fun o e => hk I (by simp) o e, st.1.2.at fun o e => hk ax (by simp) o e⟩, hk x1 (by simp) _ st.2⟩
  item := fun i s Q E hi st hQ => by
    refine wpAny_pyNext_list_item st.1.1 st.1.2 (x := items[i]) (by simp [hi]) fun h' hit' hs' => ?_
    exact hQ _ h' s.toks (by simp [hi]) ⟨⟨hit', st.1.2.extBut hs'.extBut hne⟩, hs'.extBut x1 o1 hn1 st.2⟩ fun b o hb e => hs'.extBut b o (fun h => hb (by simp [h])) e
  done := fun s Q E st hQ => next_end_hot ⟨hh, o1, vs1, st.2, d1, c1⟩ hn1 st.1.1 st.1.2 (by simp) fun h' he' => hQ h' s.toks fun b o hb e => he' b o (fun h => hb (by simp [h])) e
  self := fun _ _ _ _ st hQ => wpAny_pyIter_listiter st.1.1 hQ
end
theorem cr_anyH {X : Cx} {a : Addr} {oe : Obj} {pn : List (Addr × Obj)} (hf : ∃ vs : Array Value, oe.data = .fields vs ∧ vs[2]? = some .none) : CallR (X.suite a ((a, oe) :: pn)) (.builtin "any") (rAny X.K) := by
  intro pins s σ H vs us Q I r h
  obtain ⟨l, bs, rfl, hs, q⟩ := h
  obtain ⟨its, rv, hl, _⟩ := I.list hs
  rw [Vals.ref1 r]
  have hb := rv.bls
  obtain ⟨hget, _⟩ := I.pin (a, oe) (List.mem_append.mpr (.inl List.mem_cons_self))
  obtain ⟨vs1, d1, c1⟩ := hf
  refine call_any_walk (iter_any hl.isList fun s₂ e2 st hne => ?_)
  subst e2
  have ha : a ≠ s.heap.objs.size := Nat.ne_of_lt (Heap.lt_size hget)
  refine ⟨_, _, _, _, _, _, _, rfl, walks_listHot (A := (X.suite a ((a, oe) :: pn)).A.in1) (x1 := a) (o1 := oe) rfl d1 c1 _ l hne ha its.toArray, ⟨st, Heap.get?_push_of_some _ hget⟩, truth_bools hb, fun h' tk hk => ?_⟩
  refine ⟨.bl _, H, I.kept fun b o eo => hk b o (fun hmem => ?_) (Heap.get?_push_of_some _ eo), ?_, q⟩
  · rcases List.mem_cons.mp hmem with e1 | hmem
    · exact absurd (e1 ▸ Heap.lt_size eo) (Nat.lt_irrefl _)
    · cases hmem
  · show Value.bool _ = Value.bool _
    rw [← L2.any_range, hb, List.size_toArray, List.length_map]

/-! ### C(e), C an own exception class with an __init__ -/
section
variable {X : Cx} {e : Expr} {es : List Expr} {ta : TA} {p pos : Pos}
theorem pmk_oexN {CX : CXT} {x : Str} {C fI : Addr} {k : Nat} {fd : FuncData} {ps : List Str} {sp : Sp} {ds : List Value} {dvs : List V} (T : OexC X.K C) (iC : PySem.W.findIn X.K (.ref C) "__init__" = some (some (.ref fI))) (tI : PySem.W.typeIn X.K (.ref fI) = some (.type "function"))
    (F1 : FnOk X.prog X.w X.K X.mg X.base CX k fI fd ps sp) (hr : Room (k + 1) X.A) (hb : Binds X.K fd ps ds) (hd : Vals dvs ds) (hx : Passes CX X (fun _ _ _ => False)) (hg : Gl X x) (hm : X.mg x = some (.ref C)) (ha : PA X (e :: es) ta)
    (hdb : (x == ("__debug__" : Str)) = false := by decide) (he : starEach (e :: es) X.env = (false, eval e X.env) :: starEach es X.env := by rfl) (hpl : (backTo pos (starEach es X.env)).any (·.1) = false := by rfl) :
    L2N.PMk X (.Call (.Name x p) (e :: es) [] pos) (tMkO C sp dvs ta) := by
  intro pins s σ H Q I h
  obtain ⟨nm, q, N, bs, bm, sn, sub, ab, col, dd, k0, k1, k2, k3, k5, hC, hbm⟩ := T.cls
  refine wpAny_Call_Name_kw (ld_glob I hg hm ?_ hdb)
  refine PySem.W.callWith_K (h₀ := X.base) I.ok.mod.kin T.kC (thn (ha.run pos pins s σ H _ I h) fun us s1 ⟨vs, H1, I1, r1, hz, q1⟩ => ⟨I1.kIn, ?_⟩) he hpl
  show wpAny _ _ (call (.ref C) us) _ _ _
  obtain ⟨hp, g, dr, tk, os⟩ := s1
  have hsz : hp.objs.size ≤ hp.objs.size + 1 := Nat.le_succ _
  have hn : H1 (hp.objs.size + 1) = none := I1.hok.fresh hsz
  have hq := q1 (hp.objs.size + 1) hn
  have kk : ∀ b o, hp.get? b = some o → ((hp.push (PySem.W.kdv_tup us)).push (PySem.HandSPX.excO C hp.objs.size)).get? b = some o := fun b o e => Heap.get?_push_of_some _ (Heap.get?_push_of_some _ e)
  have hget : ((hp.push (PySem.W.kdv_tup us)).push (PySem.HandSPX.excO C hp.objs.size)).get? (hp.objs.size + 1) = some (PySem.HandSPX.excO C hp.objs.size) := by heap_get
  have I2 : Inv X pins σ (upd H1 (hp.objs.size + 1) (exo (hp.objs.size + 1) C none)) ⟨(hp.push (PySem.W.kdv_tup us)).push (PySem.HandSPX.excO C hp.objs.size), g, dr, tk, os⟩ :=
    I1.laid (t' := tk) (a := hp.objs.size + 1) (o := exo (hp.objs.size + 1) C none) (h' := (hp.push (PySem.W.kdv_tup us)).push (PySem.HandSPX.excO C hp.objs.size)) kk hsz (exo_ok hget)
  have r2 : Vals (V.ref (hp.objs.size + 1) :: (vs ++ dvs)) (Value.ref (hp.objs.size + 1) :: (us ++ ds)) := .cons rfl (r1.append hd)
  have hl : (Value.ref (hp.objs.size + 1) :: us ++ ds).length = ps.length := by
    have e := r2.length
    rw [F1.len _ _ _ _ hq] at e
    exact e.symm
  have hus : us.length ≤ sizeLine := by
    rw [← Paired.length r1, sizeLine_eq]
    omega
  refine wpAny_call (PySem.HandSPX.call_own F.excBase_ValueError (fun Y => PySem.HandSPX.refsVE_contains Y bm hbm) (I1.kIn _ _ hC) (PySem.W.looks_findIn I1.kIn iC) (fun self => PySem.W.bind_fn I1.kIn self tI) hus
    (codeAny_mono (F1.run _ X.stack _ _ ⟨Value.ref (hp.objs.size + 1) :: us, []⟩ (Value.ref (hp.objs.size + 1) :: (us ++ ds)) _ _ (fun _ _ _ => False) (hr.make C us []) (I2.env0.make C us []) (hb _ (Value.ref (hp.objs.size + 1) :: us) I2.kIn hl) r2 hq) fun r s' hq' => ?_))
  cases r with
  | error er => exact hx pins σ _ _ er s' I2 hq'
  | ok fl =>
    cases fl with
    | ret u =>
      obtain ⟨v, H2, os2, bare2, un2, hok2, rv, ev, d, fs, ea, ed, hd1, q2⟩ := hq'
      subst ev
      obtain ⟨h2, g2, d2, t2, os'⟩ := s'
      obtain ⟨t0, G, J, kG, ge, hoe, na⟩ := mk_end0 (d2 := d2) (t2 := t2) I1 hsz kk un2 hok2 os2 bare2 ea ed hd1
      exact ⟨rv, _, _, _, ⟨G, g2, d2, t2, os'⟩, _, .ref C, some d, rfl, J, kG, ge, hoe, ⟨rfl, rfl, fun vs e => by cases e; rfl⟩, rfl, rfl, na, rfl, bare2, raises_own T.exC T.tyC, q2⟩
    | next => exact False.elim hq'
    | brk => exact False.elim hq'
    | cont => exact False.elim hq'
end
end J
/-! J23: a def that raises; a def that catches -/
namespace J
open PySem PySem.Spec PyProof.Rows L2
/-! ### self.f = e, alone in the __init__ of an exception class -/
def spMi (C : Addr) (fl : Str) : Sp := fun vs H Q _ => ∃ (a : Addr) (i : Int), vs = [.ref a, .int i] ∧ H a = some (exo a C none) ∧ ∀ dx, H dx = none → dx ≠ a → Q .non (upd (upd H dx (exd dx [(fl, .int i)])) a (exo a C (some dx)))
section
variable {P : Program} {w : World} {K : PySem.W.Frag} {mg : Str → Option Value} {base : Heap} {x qual : Str} {params : Arguments} {body : List Stmt} {scope : Scope} {f C : Addr} {fd : FuncData} {N ps : List Str} {k m : Nat} {fl : Str}
theorem fn_exi (F : FunD K x qual params body scope [] [] f fd) (S : FnScope [y0, y1] [y0, y1] scope) (T : OexC K C) (hno : PySem.W.findIn K (.ref C) fl = some none)
    (hb : ∀ (cdv : Value) (A : Around) (outer : List Env) (s : Shared) (H : Hp) (E : XK), PSs (cxOf CX0 P w K mg base [y0, y1] qual scope f cdv A outer s H E) body (tOst K fl (tVar 0) (tVar 1))) : FnOk P w K mg base CX0 (k + 1) f fd [y0, y1] (spMi C fl) := by
  refine F.ok S (fun vs H Q E h => ?_) fun cdv A outer s H vs Q E hr h => ⟨_, hb cdv A outer s H E, ?_⟩
  · obtain ⟨a, i, rfl, _⟩ := h
    rfl
  · obtain ⟨a, i, rfl, ha, q⟩ := h
    exact ⟨_, rfl, _, rfl, a, C, rfl, T, hno, .inl ⟨ha, fun dx n ne => q dx n ne⟩⟩
/-! ### a def that raises C(n) -/
def spX (K : PySem.W.Frag) (C : Addr) (fl : Str) (m : Nat) (G : List D → Int → Prop) : Sp := fun vs H _ E => vs.length = m ∧ ∃ ds H0 n, G ds n ∧ Same H0 H ∧ RepL K H0 vs ds ∧ ∀ H' d, Same H H' → H' d = none → E (.ref C) (some d) (upd H' d (.xd [(fl, .int n)]))
def dRaise (ta : DE) (R : Int → Prop) : DS := fun _ δ => ta δ fun x => asI x R
theorem sd_raise {X : Cx} {B He : Hp} {e e2 : Expr} {pos : Pos} {ta : DE} {ua : TE} {E : XK} {R : Int → Prop} (hc : X.calm = true) (tk : L2N.Takes X (fun cls d _ H => E cls d H)) (hm : ∀ ta, PA X [e] ta → L2N.PMk X e2 (tMkO C (spMi C fl) [] ta)) (ha : PEd X e ua ta)
    (hR : ∀ n H d, R n → Same B H → H d = none → E (.ref C) (some d) (upd H d (.xd [(fl, .int n)]))) (hs : starEach (e :: []) X.env = (false, eval e X.env) :: starEach [] X.env := by rfl) : PSd X B He (.Raise (some e2) none pos) (dRaise ta R) := by
  refine ⟨_, L2N.ps_raise hc tk (hm _ (pa_cons ha.p pa_nil hs)), fun E' δ h D H0 σ H L ok => ha.s δ _ h H0 H σ _ ok.st.e2 ok.env fun v x G0 G hx s r => ?_⟩
  obtain ⟨n, rfl, hn⟩ := asI_inv hx
  have ev := res_int r
  subst ev
  refine ⟨by show 1 ≤ 1000; decide, fun a na => ⟨a, n, rfl, upd_same, fun dx hdx ne => ⟨rfl, dx, [(fl, .int n)], upd_same, ?_, ?_, ?_⟩⟩⟩
  · rw [upd_ne ne]
    exact upd_same
  · rw [upd_ne ne] at hdx
    exact hdx
  · rw [upd_ne ne] at hdx
    have z := hR n G dx hn (ok.st.e1.trans s.e1) hdx
    have e : upd (del (upd (upd (upd G a (exo a C none)) dx (exd dx [(fl, V.int n)])) a (exo a C (some dx))) a) dx (.xd [(fl, .int n)]) = upd G dx (.xd [(fl, .int n)]) := by
      funext b
      by_cases c : b = dx
      · rw [c, upd_same, upd_same]
      · rw [upd_ne c, upd_ne c]
        by_cases c2 : b = a
        · rw [c2, del_same, na]
        · rw [del_ne c2, upd_ne c2, upd_ne c, upd_ne c2]
    rw [← e] at z
    exact z
abbrev CxX (P : Program) (w : World) (K : PySem.W.Frag) (mg : Str → Option Value) (base : Heap) (N : List Str) (qual : Str) (scope : Scope) (f : Addr) (cdv : Value) (A : Around) (outer : List Env) (s : Shared) (H : Hp) (E : XK) : Cx := cxOf (L2N.CX P w) P w K mg base N qual scope f cdv A outer s H E
theorem fn_okX {T : (Int → Prop) → DS} {G : List D → Int → Prop} (F : FunD K x qual params body scope [] [] f fd) (S : FnScope N ps scope) (hn : ps.length = m)
    (hb : ∀ (cdv : Value) (A : Around) (outer : List Env) (s : Shared) (H B He : Hp) (E : XK) (R : Int → Prop), Room k (A.deeper (envOfC qual scope s.heap.objs.size f cdv)) → (∀ n H d, R n → Same B H → H d = none → E (.ref C) (some d) (upd H d (.xd [(fl, .int n)]))) → PSsd (CxX P w K mg base N qual scope f cdv A outer s H E) B He body (T R))
    (hT : ∀ ds n, G ds n → T (fun j => j = n) { nx := fun _ => False, rt := fun _ => False } (δof N.length ds)) : FnOk P w K mg base (L2N.CX P w) (k + 1) f fd ps (spX K C fl m G) := by
  refine F.ok S (fun vs H Q E h => h.1.trans hn.symm) fun cdv A outer s H vs Q E hr h => ?_
  obtain ⟨_, ds, H0, n, hG, e, r, kE⟩ := h
  obtain ⟨t, h1, h2⟩ := (hb cdv A outer s H H H0 E (fun j => j = n) hr fun j H' d hj s' hd => hj ▸ kE H' d s' hd).ex
  exact ⟨t, h1, h2 _ _ (hT ds n hG) _ H0 _ H ⟨fun δ G0 σ G hq _ _ => hq.elim, fun d v G0 G hq _ _ => hq.elim, fun δ G0 σ G hq _ _ => hq.elim, fun δ G0 σ G hq _ _ => hq.elim⟩ (ok_start e r)⟩
end
/-! ### what is asked of the text -/
/-- the exception class C is one of C's own instances' class -/
def oexB (K : PySem.W.Frag) (C : Addr) : Bool := (match K.lookup C with
  | some ⟨.type "type", _, .cls cd, sl⟩ => (match cd.mro, sl.toList with
    | .ref C' :: bm, [_, _, _, _, some (.builtin n), _] => decide (C' = C) && (decide (n = "ValueError.__new__") && (!cd.hasDel && (cd.hasDict && PySem.HandSPX.refsVE bm)))
    | _, _ => false)
  | _ => false) && (decide (PySem.W.findIn K (.ref C) "__setattr__" = some (some (.builtin "object.__setattr__"))) && (decide (PySem.W.subIn K (.ref C) (.type "BaseException") = some true) && (decide (PySem.W.typeIn K (.ref C) = some (.type "type")) && PySem.W.keepIn K (.ref C))))
theorem oexB_ok {K : PySem.W.Frag} {C : Addr} (h : oexB K C = true) : OexC K C := by
  unfold oexB at h
  obtain ⟨h1, h⟩ := Bool.and_eq_true_iff.mp h
  obtain ⟨h2, h⟩ := Bool.and_eq_true_iff.mp h
  obtain ⟨h3, h⟩ := Bool.and_eq_true_iff.mp h
  obtain ⟨h4, h5⟩ := Bool.and_eq_true_iff.mp h
  refine ⟨?_, of_decide_eq_true h2, of_decide_eq_true h3, of_decide_eq_true h4, h5⟩
  split at h1
  · rename_i dd cd sl ho
    split at h1
    · rename_i C' bm k0 k1 k2 k3 n k5 hm hs
      simp only [Bool.and_eq_true, decide_eq_true_eq, Bool.not_eq_true'] at h1
      obtain ⟨rfl, rfl, hdel, hdic, ht⟩ := h1
      obtain ⟨nm, bs, mro, ns, qn, hd, sn, sub, ab, col, del⟩ := cd
      dsimp only at hm hdel hdic
      subst hm hdel hdic
      have hsl : sl = #[k0, k1, k2, k3, some (.builtin "ValueError.__new__"), k5] := by
        obtain ⟨l⟩ := sl
        simp only at hs
        rw [hs]
      subst hsl
      exact ⟨nm, qn, ns, bs, bm, sn, sub, ab, col, dd, k0, k1, k2, k3, k5, ho, ht⟩
    · cases h1
  · cases h1
def ecB (K : PySem.W.Frag) (D : Addr) : Bool := decide (PySem.W.findIn K (.ref D) "__getattribute__" = some (some (.builtin "BaseException.__getattribute__"))) && (decide (PySem.W.findIn K (.ref D) "__getattr__" = some none) && (decide (PySem.W.subIn K (.ref D) (.type "BaseException") = some true) && (PySem.W.hasDictIn K D &&
  (decide (PySem.W.findIn K (.ref D) "__class__" = some (some (.builtin "object.__class__"))) && (decide (PySem.W.specialIn K (.builtin "object.__class__") "__get__" = some (some (.builtin "getset_descriptor.__get__"))) && (decide (PySem.W.takesIn K (.builtin "object.__class__") = some true) && decide (PySem.W.mroIn K D (.type "object") = some true)))))))
theorem ecB_ok {K : PySem.W.Frag} {D : Addr} (h : ecB K D = true) : ExcC K D := by
  obtain ⟨h1, h⟩ := Bool.and_eq_true_iff.mp h
  obtain ⟨h2, h⟩ := Bool.and_eq_true_iff.mp h
  obtain ⟨h3, h⟩ := Bool.and_eq_true_iff.mp h
  obtain ⟨h4, h⟩ := Bool.and_eq_true_iff.mp h
  obtain ⟨h5, h⟩ := Bool.and_eq_true_iff.mp h
  obtain ⟨h6, h⟩ := Bool.and_eq_true_iff.mp h
  obtain ⟨h7, h8⟩ := Bool.and_eq_true_iff.mp h
  exact ⟨of_decide_eq_true h1, of_decide_eq_true h2, of_decide_eq_true h3, h4, of_decide_eq_true h5, of_decide_eq_true h6, of_decide_eq_true h7, of_decide_eq_true h8⟩
theorem ExcC.xf {K : PySem.W.Frag} {D : Addr} (h : ExcC K D) : XfC K D := ⟨h.hg, h.hk, h.hs, h.hd⟩
theorem takes0N {X : Cx} : L2N.Takes X (fun _ _ _ _ => False) := fun _ _ x => by
  obtain ⟨_, _, _, _, _, _, _, _, _, _, _, _, _, _, _, _, z⟩ := x
  exact z.elim
end J
/-! J24: what is held, handed in where the answer holds none of it but may hold what it holds; a new list changed and let go -/
namespace J
open PySem PySem.Spec PyProof.Rows L2
/-- no list, no instance -/
def D.wk : D → Bool
  | .tup ds => ds.all D.scal
  | .dct _ => true
  | d => d.scal
def D.leafT : D → Bool
  | .mv (.olst ds) => ds.all D.wk
  | .mv (.oll dss) => dss.all fun ds => ds.all D.wk
  | .mv (.oobj _ gs) => gs.all fun g => match g.2 with
    | .olst ds => ds.all D.wk
    | .oll dss => dss.all fun ds => ds.all D.wk
    | d => d.wk
  | .mv d => d.wk
  | d => d.wk
/-- a list, an instance -/
def LI (o : HO) : Prop := (∃ vs, o = .lst vs) ∨ ∃ C dx fs, o = .ins C dx fs
/-- all but lists and instances stands -/
def ButLI (H H' : Hp) : Prop := ∀ a o, H a = some o → ¬ LI o → H' a = some o
section
variable {K : PySem.W.Frag} {H H' H0 H0' : Hp}
theorem not_tup {vs : List V} : ¬ LI (.tup vs) := fun h => by
  rcases h with ⟨_, e⟩ | ⟨_, _, _, e⟩ <;> cases e
theorem not_dT {t : List (List Key × V)} : ¬ LI (.dT t) := fun h => by
  rcases h with ⟨_, e⟩ | ⟨_, _, _, e⟩ <;> cases e
theorem Rep.wkt {v : V} {d : D} (b : ButLI H H') (h : Rep K H v d) (e : d.wk = true) : Rep K H' v d := by
  cases h with
  | non => exact .non
  | bl _ => exact .bl _
  | int _ => exact .int _
  | str _ => exact .str _
  | tup h1 h2 => exact .tup (b _ _ h1 not_tup) (h2.sc e)
  | dct h1 => exact .dct (b _ _ h1 not_dT)
  | lst _ _ => cases e
  | obj _ _ => cases e
  | scr _ => cases e
  | fn _ => cases e
theorem RepL.wkt (b : ButLI H H') : ∀ {vs : List V} {ds : List D}, RepL K H vs ds → ds.all D.wk = true → RepL K H' vs ds
  | _, _, .nil, _ => .nil
  | _, _, .cons a t, e => by
    rw [List.all_cons, Bool.and_eq_true] at e
    exact .cons (a.wkt b e.1) (t.wkt b e.2)
theorem RepLL.wkt (b : ButLI H0 H0') : ∀ {as : List Addr} {dss : List (List D)}, RepLL K H0 H as dss → (dss.all fun ds => ds.all D.wk) = true → RepLL K H0' H as dss
  | _, _, .nil, _ => .nil
  | _, _, .cons h a t, e => by
    rw [List.all_cons, Bool.and_eq_true] at e
    exact .cons h (a.wkt b e.1) (t.wkt b e.2)
theorem OwnF.wkt (b : ButLI H0 H0') : ∀ {p : List Addr} {fs : List (Str × V)} {gs : List (Str × D)}, OwnF K H0 H p fs gs → (gs.all fun g => match g.2 with
    | .olst ds => ds.all D.wk
    | .oll dss => dss.all fun ds => ds.all D.wk
    | d => d.wk) = true → OwnF K H0' H p fs gs
  | _, _, _, .nil, _ => .nil
  | _, _, _, .cons h t, e => by
    rw [List.all_cons, Bool.and_eq_true] at e
    refine .cons ?_ (t.wkt b e.2)
    have e1 := e.1
    cases h with
    | leaf r =>
      refine .leaf (r.wkt b ?_)
      cases r <;> exact e1
    | olst x y => exact .olst x (y.wkt b e1)
    | oll x y => exact .oll x (y.wkt b e1)
theorem Res.wkt {H1 G0 G I0 : Hp} {v : V} {d : D} (b : ButLI G0 I0) (h : Res K H1 G0 G v d) (e : d.leafT = true) (f : ∀ p, Fresh G0 H1 p → Fresh I0 H1 p) : Res K H1 I0 G v d := by
  have sc : d.wk = true → d.plain = true → Res K H1 I0 G v d := fun e1 e2 => Res.rep ((h.rep_of e2).wkt b e1)
  cases d with
  | mv d =>
    obtain ⟨p, o, fr⟩ := h
    cases o with
    | one r =>
      cases r with
      | leaf r =>
        refine ⟨[], .one (.leaf (r.wkt b ?_)), f _ fr⟩
        cases r <;> exact e
      | olst x y => exact ⟨_, .one (.olst x (y.wkt b e)), f _ fr⟩
      | oll x y => exact ⟨_, .one (.oll x (y.wkt b e)), f _ fr⟩
    | oobj x y => exact ⟨_, .oobj x (y.wkt b e), f _ fr⟩
  | non => exact sc rfl rfl
  | bl _ => exact sc rfl rfl
  | int _ => exact sc rfl rfl
  | str _ => exact sc rfl rfl
  | tup ds => exact sc e rfl
  | dct ks => exact sc rfl rfl
  | _ => cases e
/-- what stands at the places of what is held -/
theorem RepLL.li : ∀ {as : List Addr} {dss : List (List D)}, RepLL K H0 H as dss → ∀ a ∈ as, ∃ o, H a = some o ∧ LI o
  | _, _, .cons h _ t, a, ha => by
    rcases List.mem_cons.mp ha with e | ha
    · rw [e]
      exact ⟨_, h, .inl ⟨_, rfl⟩⟩
    · exact t.li a ha
theorem Own1.li {p : List Addr} {v : V} {d : D} (h : Own1 K H0 H p v d) : ∀ a ∈ p, ∃ o, H a = some o ∧ LI o := fun a ha => by
  cases h with
  | leaf _ => cases ha
  | olst x _ =>
    rw [List.mem_singleton.mp ha]
    exact ⟨_, x, .inl ⟨_, rfl⟩⟩
  | oll x y =>
    rcases List.mem_cons.mp ha with e | ha
    · rw [e]
      exact ⟨_, x, .inl ⟨_, rfl⟩⟩
    · exact y.li a ha
theorem OwnF.li : ∀ {p : List Addr} {fs : List (Str × V)} {gs : List (Str × D)}, OwnF K H0 H p fs gs → ∀ a ∈ p, ∃ o, H a = some o ∧ LI o
  | _, _, _, .nil, a, ha => by cases ha
  | _, _, _, .cons h t, a, ha => by
    rcases List.mem_append.mp ha with ha | ha
    · exact h.li a ha
    · exact t.li a ha
theorem Own.li {p : List Addr} {v : V} {d : D} (h : Own K H0 H p v d) : ∀ a ∈ p, ∃ o, H a = some o ∧ LI o := fun a ha => by
  cases h with
  | one r => exact r.li a ha
  | oobj x y =>
    rcases List.mem_cons.mp ha with e | ha
    · rw [e]
      exact ⟨_, x, .inr ⟨_, _, _, rfl⟩⟩
    · exact y.li a ha
/-- all that is handed in is told plain; what is told more than before -/
theorem AL.fz2 {G0 G : Hp} (e : Same G0 G) : ∀ {vs : List V} {ds : List D}, AL K G0 G vs ds → ∃ (I0 : Hp) (p : List Addr), Same G0 I0 ∧ Same I0 G ∧ RepL K I0 vs (ds.map J.frz) ∧ (∀ a, a ∉ p → I0 a = G0 a) ∧ (∀ a ∈ p, ∃ o, G a = some o ∧ LI o)
  | _, _, .nil => ⟨G0, [], Same.refl _, e, .nil, fun _ _ => rfl, fun a ha => by cases ha⟩
  | _, _, .cons ⟨p, h⟩ t => by
    obtain ⟨I0, q, e1, e2, r, q1, q2⟩ := AL.fz2 e t
    refine ⟨more I0 G p, p ++ q, e1.trans (more_same e2), more_sub e2, .cons ?_ (r.to (more_same e2)), fun a ha => ?_, fun a ha => ?_⟩
    · exact (h.to e1 (Same.refl _)).frz e2 (more_same e2) fun a ha o ho => by rw [more_in ha]; exact ho
    · rw [List.mem_append, not_or] at ha
      rw [more_out ha.1]
      exact q1 a ha.2
    · rcases List.mem_append.mp ha with ha | ha
      · exact h.li a ha
      · exact q2 a ha
theorem kont_t {G0 G I0 : Hp} {P : D → Prop} {Q : VK} {p : List Addr} (e : Same G0 I0) (eI : Same I0 G) (q1 : ∀ a, a ∉ p → I0 a = G0 a) (q2 : ∀ a ∈ p, ∃ o, G a = some o ∧ LI o) (k : Kont K G0 G P Q) : Kont K I0 G (fun d => d.leafT = true ∧ P d) Q := fun v d J0 J hp s r => by
  have out : ∀ {a}, a ∉ p → (if a ∈ p then G0 a else J0 a) = J0 a := fun h => if_neg h
  have inn : ∀ {a}, a ∈ p → (if a ∈ p then G0 a else J0 a) = G0 a := fun h => if_pos h
  refine k v d (fun a => if a ∈ p then G0 a else J0 a) J hp.2 ⟨s.e1, fun a o h => ?_, fun a o h => ?_, fun a o h n => ?_⟩ (r.wkt (fun a o h nl => ?_) hp.1 fun q fr => ⟨fr.1, fun a ha => ⟨?_, (fr.2 a ha).2⟩⟩)
  · by_cases c : a ∈ p
    · exact (inn c).trans h
    · exact (out c).trans (s.e0 a o ((q1 a c).trans h))
  · by_cases c : a ∈ p
    · exact s.e2 a o (s.e0 a o (e a o ((inn c).symm.trans h)))
    · exact s.e2 a o ((out c).symm.trans h)
  · by_cases c : a ∈ p
    · rw [show (if a ∈ p then G0 a else J0 a) = G0 a from inn c, n] at h
      cases h
    · exact s.fr a o ((out c).symm.trans h) ((q1 a c).trans n)
  · by_cases c : a ∈ p
    · obtain ⟨u, hu, li⟩ := q2 a c
      have z1 := s.e1 a u hu
      have z2 := s.e2 a o h
      rw [z1] at z2
      have e3 : u = o := Option.some.inj z2
      exact absurd (e3 ▸ li) nl
    · exact (out c).trans h
  · have c : a ∉ p := fun c => by
      obtain ⟨u, hu, _⟩ := q2 a c
      rw [(fr.2 a ha).2] at hu
      cases hu
    exact (out c).trans (fr.2 a ha).1
end
def dCallT (G : GD) (t : DA) : DE := fun δ P => t δ fun ds => G (ds.map frz) fun d => d.leafT = true ∧ P d
section
variable {X : Cx} {pos : Pos} {e : Expr} {es : List Expr} {tr : DA} {ur : TA}
theorem snd_makeT {K : PySem.W.Frag} {C : Addr} {n : Nat} {G : GD} (hn : ∀ ds P, G ds P → ds.length = n) (hs : SndA K ur tr) : SndE K (tMake C (spI K C n G) [] E0 ur) (dCallT G tr) := fun δ P hT H0 H1 σ Q e env k => hs δ _ hT H0 H1 σ _ e env fun vs ds G0 G1 hx s al => by
  obtain ⟨I0, p, e1, e2, r, q1, q2⟩ := AL.fz2 s.e2 al
  intro x dx nx ndx ne
  have nx0 : I0 x = none := e2.free nx
  have e3 : Same G1 (upd (upd G1 dx (.own x)) x (.ins C dx [])) := (same_new ndx).trans (same_new (by rw [upd_ne (Ne.symm ne)]; exact nx))
  have e4 : Same G1 (hide (upd (upd G1 dx (.own x)) x (.ins C dx [])) x) := same_hide e3 nx
  refine ⟨x, dx, vs, ds.map frz, _, I0, by rw [List.append_nil], r.len.trans (hn _ _ hx), upd_same, nx0, e2.trans e3, r, hx, fun d J0 I hp s2 rr => ⟨rfl, ?_⟩⟩
  exact (kont_t e1 e2 q1 q2 (k.after s)) _ d J0 I hp ⟨e4.trans s2.e1, s2.e0, s2.e2, fun a o q n => e4.free (s2.fr a o q n)⟩ (rr.back e4)
theorem pd_cdefT {x : Str} {p : Pos} {k n : Nat} {G : GD} {C : Addr} (d : CDef X.prog X.w X.K X.mg X.base C x k n G) (hn : ∀ ds P, G ds P → ds.length = n) (hr : Room (k + 1) X.A)
    (ha : PAd X (e :: es) ur tr) (hg : Gl X x := by rfl) (hdb : (x == ("__debug__" : Str)) = false := by decide) (he : starEach (e :: es) X.env = (false, eval e X.env) :: starEach es X.env := by rfl) (hpl : (backTo pos (starEach es X.env)).any (·.1) = false := by rfl) :
    PEd X (.Call (.Name x p) (e :: es) [] pos) (tMake C (spI X.K C n G) [] E0 ur) (dCallT G tr) := by
  obtain ⟨f, fd, ps, F, m, M, b⟩ := d.ex
  exact ⟨pe_make M F hr hg m b .nil pass0 ha.p hdb he hpl, snd_makeT hn ha.s⟩
/-! ### e.append(a), e a new list that nobody holds -/
def dAppT (te ta : DE) : DS := fun E δ => te δ fun x => ∃ ds, x = .mv (.olst ds) ∧ ds.length ≤ 100000 ∧ ta δ fun y => y.plain = true ∧ E.nx δ
theorem Holds.to {K : PySem.W.Frag} {B H0 H G0 G : Hp} {δ : List DV} {σ : L2.St} {f : Nat → List Addr} (h1 : Holds K B H0 δ σ H f) (s : Step H0 H G0 G) : Holds K B G0 δ σ G f := by
  refine ⟨fun i d q => ?_, fun i => ⟨(h1.fresh i).1, fun a ha => ⟨?_, ((h1.fresh i).2 a ha).2⟩⟩, h1.apart, fun i a ha => ?_⟩
  · obtain ⟨v, a, b⟩ := h1.is i d q
    exact ⟨v, a, b.to s.e0 s.e1⟩
  · cases q : G0 a with
    | none => rfl
    | some o =>
      obtain ⟨u, hu⟩ := h1.there i a ha
      have z := s.fr a o q ((h1.fresh i).2 a ha).1
      rw [hu] at z
      cases z
  · obtain ⟨u, hu⟩ := h1.there i a ha
    exact ⟨u, s.e1 a u hu⟩
theorem Ok.stray {K : PySem.W.Frag} {B He H0 H : Hp} {δ : List DV} {σ : L2.St} {l : Addr} {o : HO} {f : Nat → List Addr} (h : Ok K B He H0 δ σ H) (hf : Holds K B H0 δ σ H f) (n0 : H0 l = none) (nB : B l = none) (nl : ∀ i, l ∉ f i) : Ok K B He H0 δ σ (L2.upd H l o) := by
  refine ⟨⟨fun a u q => ?_, h.st.e0, fun a u q => ?_, h.st.fr⟩, ⟨f, fun i d q => ?_, hf.fresh, hf.apart, fun i a ha => ?_⟩, h.len⟩
  · rw [upd_ne fun z => by rw [z, nB] at q; cases q]
    exact h.st.e1 a u q
  · rw [upd_ne fun z => by rw [z, n0] at q; cases q]
    exact h.st.e2 a u q
  · obtain ⟨v, a, b⟩ := hf.is i d q
    refine ⟨v, a, b.mono (Same.refl _) fun c hc u hu => ?_⟩
    rw [upd_ne fun z => nl i (by rw [← z]; exact hc)]
    exact hu
  · obtain ⟨u, hu⟩ := hf.there i a ha
    refine ⟨u, ?_⟩
    rw [upd_ne fun z => nl i (by rw [← z]; exact ha)]
    exact hu
theorem sd_appT {B He : Hp} {o a : Expr} {apos cpos : Pos} {uo ua : TE} {to ta : DE} (ho : PEd X o uo to) (ha : PEd X a ua ta) (hbase : attributeBase o "append" X.env (eval o X.env) = eval o X.env := by rfl)
    (hfew : ((backTo cpos (starEach (a :: []) X.env)).all (fun x => !x.1) && (backToKw cpos (keywordEach [] X.env)).all (fun x => x.1.isSome)
      && decide ((a :: []).length + ([] : List Keyword).length + (if ([] : List Keyword).isEmpty then 0 else 1) < 30)) = true := by rfl)
    (hline : (apos.endLine == cpos.line) = true := by rfl) (hs : starEach (a :: []) X.env = (false, eval a X.env) :: starEach [] X.env := by rfl) (hplain : (backTo cpos (starEach [] X.env)).any (·.1) = false := by rfl)
    (hsw : swapsWith (.Call (.Attribute o "append" apos) [a] [] cpos) none pos.line X.env = pure false := by rfl) : PSd X B He (.Expr (.Call (.Attribute o "append" apos) [a] [] cpos) pos) (dAppT to ta) := by
  obtain ⟨a1, a2⟩ := ha
  obtain ⟨b1, b2⟩ := ho
  refine ⟨_, ps_expr (pe_bm PySem.F.plainAttrs_list PySem.F.slot_list_append PySem.F.type_list_append mt_append b1 (pa_cons a1 pa_nil hs) hbase hfew hline hs hplain) hsw, fun E δ h D H0 σ H L ok => ?_⟩
  refine b2 δ _ h H0 H σ _ ok.st.e2 ok.env fun v x G0 G hx s r => ?_
  obtain ⟨ds, rfl, hz, hT⟩ := hx
  obtain ⟨p, ow, nf, fr⟩ := r
  obtain ⟨l, vs, rfl, rfl, hl, hr⟩ := ow.olst
  have ok2 := ok.to s
  obtain ⟨f0, f1⟩ := fr l List.mem_cons_self
  refine ⟨tyL hl, a2 δ _ hT G0 G σ _ ok2.st.e2 ok2.env fun w y I0 I hy s2 r2 => ?_⟩
  have ok3 := ok2.to s2
  have n0 : I0 l = none := step_none s2 hl f0
  have hl2 := s2.e1 _ _ hl
  obtain ⟨F, hF⟩ := ok.own
  refine ⟨l, vs, w, rfl, rfl, hl2, sz6 (by rw [hr.len]; exact hz), L.nx δ I0 σ _ hy.2 (ok3.stray ((hF.to s).to s2) n0 (ok.st.e1.free f1) fun i hi => ?_) (s.e0.trans s2.e0)⟩
  obtain ⟨u, hu⟩ := hF.there i l hi
  rw [f1] at hu
  cases hu
theorem pd_mdef0 {x : Str} {p : Pos} {k n : Nat} {G : GD} {C : Addr} {pl : Sem Bool} {o : Expr} {uo : TE} {to : DE} (cl : Cls X.K C) (d : MDef X.prog X.w X.K X.mg X.base C x k n G) (hn : ∀ ds P, G ds P → ds.length = n) (hr : Room k X.A) (ho : PEd X o uo to)
    (ht : eval (.Call (.Attribute o x p) [] [] pos) X.env = (do
      let ov ← eval o X.env
      standAt p.atName
      let (f, first) ← holding [ov] (getMethod ov x pl)
      callWith pos f first (backTo pos (starEach [] X.env)) (backToKw pos (keywordEach [] X.env))) := by rfl) :
    PEd X (.Call (.Attribute o x p) [] [] pos) (tMeth C x (spD X.K n G) [] E0 uo tNil) (dMeth C x G to dNil) := by
  obtain ⟨f, fd, ps, F, m, b⟩ := d.ex
  exact ⟨pe_meth0 ho.p cl m F hr b .nil pass0 ht, snd_meth hn ho.s (pa_0 (X := X)).s⟩
end
end J
/-! J25: two new lists in a list; a list of lists and a list, both in a list, handed in and changed -/
namespace J
open PySem PySem.Spec PyProof.Rows L2
/-! ### [e1, e2], both new lists, held -/
def dLst2M (t1 t2 : DE) : DE := fun δ P => t1 δ fun x => ∃ d1, x = .mv (.olst d1) ∧ t2 δ fun y => ∃ d2, y = .mv (.olst d2) ∧ P (.mv (.oll [d1, d2]))
section
variable {X : Cx} {pos : Pos} {e1 e2 : Expr} {t1 t2 : DE} {u1 u2 : TE}
theorem pd_lst2M (h1 : PEd X e1 u1 t1) (h2 : PEd X e2 u2 t2) (hs1 : starEach [e1, e2] X.env = (false, eval e1 X.env) :: starEach [e2] X.env := by rfl) (hs2 : starEach [e2] X.env = (false, eval e2 X.env) :: starEach [] X.env := by rfl) :
    PEd X (.List [e1, e2] pos) (tLst (tCons u1 (tCons u2 tNil))) (dLst2M t1 t2) := by
  refine ⟨pe_lst (pa_cons h1.p (pa_cons h2.p pa_nil hs2) hs1), fun δ P hT H0 H1 σ Q e env k => ?_⟩
  refine h1.s δ _ hT H0 H1 σ _ e env fun v1 x G0 G hx s1 q1 => ?_
  obtain ⟨d1, rfl, hT2⟩ := hx
  obtain ⟨p1, o1, n1, f1⟩ := q1
  obtain ⟨a, vs, rfl, rfl, ha, hr⟩ := o1.olst
  refine h2.s δ _ hT2 G0 G σ _ s1.e2 (env.to s1.e0 s1.e1) fun v2 y I0 I hy s2 q2 => ?_
  obtain ⟨d2, rfl, hP⟩ := hy
  obtain ⟨p2, o2, n2, f2⟩ := q2
  obtain ⟨b, ws, rfl, rfl, hb, hrb⟩ := o2.olst
  refine ⟨by show 2 ≤ sizeLine; decide, fun q hq => ?_⟩
  obtain ⟨fa0, fa1⟩ := f1 a List.mem_cons_self
  obtain ⟨fb0, fb1⟩ := f2 b List.mem_cons_self
  have ia := s2.e1 _ _ ha
  have na := step_none s2 ha fa0
  have nab : a ≠ b := fun z => by rw [z, fb1] at ha; cases ha
  have naq : a ≠ q := ne_of_none ia hq
  have nbq : b ≠ q := ne_of_none hb hq
  have st : Step H0 H1 I0 (upd I q (.lst [.ref a, .ref b])) := (s1.trans s2).grow (same_new hq)
  refine k _ (.mv (.oll [d1, d2])) I0 _ hP st ⟨[q, a, b], .one (.oll upd_same (.cons ?_ (hr.to s2.e0) (.cons ?_ hrb .nil))), ?_, fun c hc => ?_⟩
  · rw [upd_ne naq]
    exact ia
  · rw [upd_ne nbq]
    exact hb
  · refine List.nodup_cons.mpr ⟨fun m => ?_, List.nodup_cons.mpr ⟨fun m => nab (List.mem_singleton.mp m), List.nodup_cons.mpr ⟨List.not_mem_nil, List.nodup_nil⟩⟩⟩
    rcases List.mem_cons.mp m with z | z
    · exact naq z.symm
    · exact nbq (List.mem_singleton.mp z).symm
  · rcases List.mem_cons.mp hc with z | hc
    · rw [z]
      exact ⟨s2.e2.free hq, (s1.e1.trans s2.e1).free hq⟩
    · rcases List.mem_cons.mp hc with z | z
      · rw [z]
        exact ⟨na, fa1⟩
      · rw [List.mem_singleton.mp z]
        exact ⟨fb0, s1.e1.free fb1⟩
end
/-! ### C(..) of what is told -/
theorem make_al {K : PySem.W.Frag} {C : Addr} {n : Nat} {G : GD} {vs : List V} {ds : List D} {P : D → Prop} {Q : VK} {G0 G1 : Hp} (hn : ∀ ds P, G ds P → ds.length = n) (e : Same G0 G1) (al : AL K G0 G1 vs ds) (hx : G (ds.map frz) fun d => d.leafT = true ∧ P d) (k : Kont K G0 G1 P Q) :
    ∀ x dx, G1 x = none → G1 dx = none → dx ≠ x → spI K C n G (.ref x :: (vs ++ [])) (upd (upd G1 dx (.own x)) x (.ins C dx [])) (fun v H2 => v = .non ∧ Q (.ref x) H2) E0 := by
  obtain ⟨I0, p, e1, e2, r, q1, q2⟩ := AL.fz2 e al
  intro x dx nx ndx ne
  have nx0 : I0 x = none := e2.free nx
  have e3 : Same G1 (upd (upd G1 dx (.own x)) x (.ins C dx [])) := (same_new ndx).trans (same_new (by rw [upd_ne (Ne.symm ne)]; exact nx))
  have e4 : Same G1 (hide (upd (upd G1 dx (.own x)) x (.ins C dx [])) x) := same_hide e3 nx
  refine ⟨x, dx, vs, ds.map frz, _, I0, by rw [List.append_nil], r.len.trans (hn _ _ hx), upd_same, nx0, e2.trans e3, r, hx, fun d J0 I hp s2 rr => ⟨rfl, ?_⟩⟩
  exact (kont_t e1 e2 q1 q2 k) _ d J0 I hp ⟨e4.trans s2.e1, s2.e0, s2.e2, fun a o q n => e4.free (s2.fr a o q n)⟩ (rr.back e4)
/-! ### slots of plain things alone -/
def DV.pl : DV → Bool
  | .no => true
  | .tr d => d.plain
section
variable {K : PySem.W.Frag} {B He H0 H : Hp} {δ : List DV} {σ : L2.St}
theorem Own.pln {p : List Addr} {v : V} {d : D} (h : Own K H0 H p v d) (e : d.plain = true) : Rep K H0 v d := by
  cases d with
  | olst _ => cases e
  | oll _ => cases e
  | oobj _ _ => cases e
  | mv _ => cases e
  | _ => exact h.rep
theorem Ok.flat (h : Ok K B He H0 δ σ H) (hp : δ.all DV.pl = true) : Holds K B H0 δ σ H (fun _ => []) := by
  obtain ⟨f, hf⟩ := h.own
  refine ⟨fun i d q => ?_, fun i => ⟨List.nodup_nil, fun a ha => absurd ha List.not_mem_nil⟩, fun i j _ a ha => absurd ha List.not_mem_nil, fun i a ha => absurd ha List.not_mem_nil⟩
  obtain ⟨v, a, b⟩ := hf.is i d q
  exact ⟨v, a, .one (.leaf (b.pln (List.all_eq_true.mp hp _ (List.mem_of_getElem? q))))⟩
theorem Ok.setNo {i : Nat} {v : Option V} (h : Ok K B He H0 δ σ H) (hi : δ[i]? = some .no) : Ok K B He H0 δ (σ.set i v) H := by
  obtain ⟨f, hf⟩ := h.own
  refine ⟨h.st, ⟨f, fun j d q => ?_, hf.fresh, hf.apart, hf.there⟩, by rw [List.length_set]; exact h.len⟩
  have ne : i ≠ j := fun z => by
    rw [← z, hi] at q
    cases q
  rw [List.getElem?_set_ne ne]
  exact hf.is j d q
theorem Ok.strayP {l : Addr} {o : HO} (h : Ok K B He H0 δ σ H) (hp : δ.all DV.pl = true) (n0 : H0 l = none) (nB : B l = none) : Ok K B He H0 δ σ (L2.upd H l o) := h.stray (h.flat hp) n0 nB fun _ z => absurd z List.not_mem_nil
end
/-! ### h = [e1, e2]; c = C(h[0], h[1]); for x in h[0]: x.append(0); h[0].append([0]); h[1].append(0) -/
def dBlk3 (G : GD) (T1 T2 : DE) (h e c : Nat) (T : DS) : DS := fun E δ => δ.all DV.pl = true ∧ δ[h]? = some .no ∧ δ[e]? = some .no ∧ T1 δ fun x => ∃ dss, x = .mv (.oll dss) ∧ (dss.length ≤ 1000 ∧ ∀ ds ∈ dss, ds.length ≤ 1000) ∧ T2 δ fun y => ∃ ds, y = .mv (.olst ds) ∧ ds.length ≤ 1000 ∧
  G [.lst (dss.map .lst), .lst ds] fun d => d.leafT = true ∧ ∃ C gs, d = .mv (.oobj C gs) ∧ T E (δ.set c (.tr (frz (.mv (.oobj C gs)))))
theorem map_at {as : List Addr} {i : Nat} {x : V} (h : (as.map V.ref)[i]? = some x) : ∃ a, as[i]? = some a ∧ x = .ref a := by
  rw [List.getElem?_map] at h
  obtain ⟨a, ha, e⟩ := Option.map_eq_some_iff.mp h
  exact ⟨a, ha, e.symm⟩
abbrev uIx (K : PySem.W.Frag) (h : Nat) (i : Int) : TE := tOp (rIxL K) (tVar h) (tC (.int i))
section
variable {X : Cx} {B He : Hp} {C : Addr} {G : GD} {T1 T2 : DE} {u1 u2 : TE} {T : DS} {h e c : Nat} {st1 st2 st3 st4 st5 : Stmt} {rest : List Stmt}
theorem sd_blk3 {e1 e2 : Expr} (hn : ∀ ds P, G ds P → ds.length = 2) (nhc : h ≠ c) (nec : e ≠ c) (neh : e ≠ h) (h1 : PEd X e1 u1 T1) (h2 : PEd X e2 u2 T2) (p1 : PE X e1 u1 → PE X e2 u2 → PS X st1 (tAsg (tLst (tCons u1 (tCons u2 tNil))) (gName h))) (p2 : PS X st2 (tAsg (tMake C (spI X.K C 2 G) [] E0 (tCons (uIx X.K h 0) (tCons (uIx X.K h 1) tNil))) (gName c)))
    (p3 : PS X st3 (tFor (iList X.K (uIx X.K h 0)) (gName e) (tDrop (tBM X.K "list" rAppend (tVar e) (tCons (tC (.int 0)) tNil))))) (p4 : PS X st4 (tDrop (tBM X.K "list" rAppend (uIx X.K h 0) (tCons (tLst (tCons (tC (.int 0)) tNil)) tNil)))) (p5 : PS X st5 (tDrop (tBM X.K "list" rAppend (uIx X.K h 1) (tCons (tC (.int 0)) tNil))))
    (hr : PSsd X B He rest T) : PSsd X B He (st1 :: st2 :: st3 :: st4 :: st5 :: rest) (dBlk3 G T1 T2 h e c T) := by
  obtain ⟨t, r1, r2⟩ := hr.ex
  have s1 := h1.s
  have s2 := h2.s
  refine ⟨_, pss_cons (p1 h1.p h2.p) (pss_cons p2 (pss_cons p3 (pss_cons p4 (pss_cons p5 r1)))), fun E δ hT D H0 σ H L ok => ?_⟩
  obtain ⟨hpl, dh, de, hT⟩ := hT
  refine s1 δ _ hT H0 H σ _ ok.st.e2 ok.env fun v1 x G0 G1 hx t1 q1 => ?_
  obtain ⟨dss, rfl, ⟨hl1, hl2⟩, hT2⟩ := hx
  obtain ⟨pp1, ow1, nd1, fr1⟩ := q1
  obtain ⟨a0, as, rfl, rfl, ha, hra⟩ := ow1.oll'
  refine s2 δ _ hT2 G0 G1 σ _ t1.e2 (ok.env.to t1.e0 t1.e1) fun v2 y I0 I hy t2 q2 => ?_
  obtain ⟨ds, rfl, hl3, hG⟩ := hy
  obtain ⟨pp2, ow2, nd2, fr2⟩ := q2
  obtain ⟨b0, vs, rfl, rfl, hb, hrb⟩ := ow2.olst
  refine ⟨by show 2 ≤ sizeLine; decide, fun l hl => ?_⟩
  have lc : h < σ.length := by rw [← ok.len]; exact lt_of_get dh
  have t12 := t1.trans t2
  -- where they stand
  obtain ⟨n1, nd1'⟩ := List.nodup_cons.mp nd1
  have ia0 := t2.e1 _ _ ha
  have hra2 : RepLL X.K I0 I as dss := hra.mono t2.e0 fun a _ o ho => t2.e1 a o ho
  have fa : ∀ a ∈ a0 :: as, I0 a = none ∧ H a = none := fun a m => by
    obtain ⟨z1, z2⟩ := fr1 a m
    obtain ⟨o, ho⟩ := ow1.there a m
    exact ⟨step_none t2 ho z1, z2⟩
  obtain ⟨fb0, fb1⟩ := fr2 b0 List.mem_cons_self
  have ex1 : ∀ a ∈ a0 :: as, ∃ o, G1 a = some o := ow1.there
  have nab : ∀ a ∈ a0 :: as, a ≠ b0 := fun a m z => by
    obtain ⟨o, ho⟩ := ex1 a m
    rw [z, fb1] at ho
    cases ho
  have nal : ∀ a ∈ a0 :: as, a ≠ l := fun a m => by
    obtain ⟨o, ho⟩ := ex1 a m
    exact ne_of_none (t2.e1 _ _ ho) hl
  have nbl : b0 ≠ l := ne_of_none hb hl
  have I0l : I0 l = none := t2.e2.free hl
  have Hb : H b0 = none := t1.e1.free fb1
  have Hl : H l = none := t12.e1.free hl
  have sJ : Step H0 H I0 (upd I l (.lst [.ref a0, .ref b0])) := t12.grow (same_new hl)
  have okJ := (ok.to sJ).setNo (v := some (.ref l)) dh
  have Jl : upd I l (.lst [.ref a0, .ref b0]) l = some (.lst [.ref a0, .ref b0]) := upd_same
  have Ja : upd I l (.lst [.ref a0, .ref b0]) a0 = some (.lst (as.map V.ref)) := by rw [upd_ne (nal a0 List.mem_cons_self)]; exact ia0
  have Jb : upd I l (.lst [.ref a0, .ref b0]) b0 = some (.lst vs) := by rw [upd_ne nbl]; exact hb
  have Jr : RepLL X.K I0 (upd I l (.lst [.ref a0, .ref b0])) as dss := hra2.mono (Same.refl _) fun a m o ho => by
    rw [upd_ne (nal a (List.mem_cons_of_mem _ m))]
    exact ho
  generalize upd I l (.lst [V.ref a0, V.ref b0]) = J at *
  have hσ : (σ.set h (some (.ref l)))[h]? = some (some (.ref l)) := List.getElem?_set_self lc
  -- c = C(h[0], h[1])
  refine ⟨.ref l, hσ, l, _, 0, .ref a0, rfl, rfl, .of Jl, at_zero, .ref l, hσ, l, _, 1, .ref b0, rfl, rfl, .of Jl, at_nat (i := 1) rfl, ?_⟩
  show ∀ x dx, J x = none → J dx = none → dx ≠ x → spI X.K C 2 G (V.ref x :: ([V.ref a0, V.ref b0] ++ [])) (upd (upd J dx (HO.own x)) x (HO.ins C dx [])) (fun v H2 => v = V.non ∧ gName c (V.ref x) (List.set σ h (some (V.ref l))) H2 _) E0
  refine make_al (Q := fun v H2 => gName c v (List.set σ h (some (V.ref l))) H2 _) (vs := [.ref a0, .ref b0]) (ds := [.oll dss, .olst ds]) hn okJ.st.e2 (.cons ⟨a0 :: as, .one (.oll Ja Jr)⟩ (.cons ⟨[b0], .one (.olst Jb hrb)⟩ .nil)) hG fun v d L0 L1 hp s r => ?_
  obtain ⟨C', gs, rfl, hT3⟩ := hp
  obtain ⟨M0, sM, rv⟩ := Res.fz s r
  have ok4 := (okJ.to sM).put (i := c) rv
  have pl4 : (δ.set c (.tr (frz (.mv (.oobj C' gs))))).all DV.pl = true := List.all_eq_true.mpr fun x hx => by
    rcases List.mem_or_eq_of_mem_set hx with z | z
    · exact List.all_eq_true.mp hpl x z
    · rw [z]
      rfl
  have dh4 : (δ.set c (.tr (frz (.mv (.oobj C' gs)))))[h]? = some .no := by rw [List.getElem?_set_ne nhc.symm]; exact dh
  have de4 : (δ.set c (.tr (frz (.mv (.oobj C' gs)))))[e]? = some .no := by rw [List.getElem?_set_ne nec.symm]; exact de
  generalize δ.set c (.tr (frz (.mv (.oobj C' gs)))) = δ4 at *
  have hσ4 : ((σ.set h (some (.ref l))).set c (some v))[h]? = some (some (.ref l)) := by rw [List.getElem?_set_ne nhc.symm]; exact hσ
  have Ll := s.e1 _ _ Jl
  have La := s.e1 _ _ Ja
  have Lb := s.e1 _ _ Jb
  have M0l : M0 l = none := step_none sM Jl I0l
  have M0b : M0 b0 = none := step_none sM Jb fb0
  have M0a : ∀ a ∈ a0 :: as, M0 a = none := fun a m => by
    rcases List.mem_cons.mp m with z | z
    · rw [z]
      exact step_none sM Ja (fa a0 List.mem_cons_self).1
    · obtain ⟨o, ho⟩ := Jr.there a z
      exact step_none sM ho (fa a m).1
  have Bn : ∀ a, H a = none → B a = none := fun a z => ok.st.e1.free z
  have Las : ∀ a ∈ as, ∃ ws, L1 a = some (.lst ws) ∧ ws.length ≤ 1000 := fun a m => by
    obtain ⟨j, lj, ej⟩ := List.mem_iff_getElem.mp m
    have lj2 : j < dss.length := by rw [← Jr.len]; exact lj
    obtain ⟨a', ws, z1, z2, z3⟩ := Jr.at (List.getElem?_eq_getElem lj2)
    rw [List.getElem?_eq_getElem lj, ej] at z1
    cases z1
    exact ⟨ws, s.e1 _ _ z2, by rw [z3.len]; exact hl2 _ (List.getElem_mem lj2)⟩
  have la : as.length ≤ 1000 := by rw [Jr.len]; exact hl1
  have le4 : e < (List.set (List.set σ h (some (V.ref l))) c (some v)).length := by rw [← ok4.len]; exact lt_of_get de4
  -- for x in h[0]: x.append(0)
  refine ⟨.ref l, hσ4, l, _, 0, .ref a0, rfl, rfl, .of Ll, at_zero, a0, rfl, ⟨_, .of La⟩, for_list (K := X.K) (a := a0) (xs := as.map V.ref)
    (fun i σ' H' => Ok X.K B He M0 δ4 σ' H' ∧ σ'[h]? = some (some (.ref l)) ∧ H' l = some (.lst [.ref a0, .ref b0]) ∧ H' a0 = some (.lst (as.map V.ref)) ∧ H' b0 = some (.lst vs) ∧ ∀ a ∈ as, ∃ ws, H' a = some (.lst ws) ∧ ws.length ≤ 1000 + i)
    ⟨ok4, hσ4, Ll, La, Lb, Las⟩ (fun i σ' H' _ w => .of w.2.2.2.1) ?_ ?_⟩
  · rintro i x σ' H' hi ⟨k1, k2, k3, k4, k5, k6⟩
    obtain ⟨a, ea, rfl⟩ := map_at hi
    have m : a ∈ as := List.mem_of_getElem? ea
    obtain ⟨ws, w1, w2⟩ := k6 a m
    have li : i < as.length := lt_of_get ea
    have k1' := k1.setNo (v := some (.ref a)) de4
    have le' : e < σ'.length := by rw [← k1.len]; exact lt_of_get de4
    refine ⟨.ref a, List.getElem?_set_self le', tyL w1, a, ws, .int 0, rfl, rfl, w1, sz6 (by omega), k1'.strayP pl4 (M0a a (List.mem_cons_of_mem _ m)) (Bn a (fa a (List.mem_cons_of_mem _ m)).2), ?_, ?_, ?_, ?_, fun a2 m2 => ?_⟩
    · rw [List.getElem?_set_ne neh]
      exact k2
    · rw [upd_ne (nal a (List.mem_cons_of_mem _ m)).symm]
      exact k3
    · rw [upd_ne fun z => n1 (by rw [z]; exact m)]
      exact k4
    · rw [upd_ne (nab a (List.mem_cons_of_mem _ m)).symm]
      exact k5
    · by_cases q : a2 = a
      · rw [q]
        exact ⟨_, upd_same, by rw [List.length_append, List.length_cons, List.length_nil]; omega⟩
      · obtain ⟨ws2, z1, z2⟩ := k6 a2 m2
        exact ⟨ws2, by rw [upd_ne q]; exact z1, by omega⟩
  · rintro σ' H' ⟨k1, k2, k3, k4, k5, k6⟩
    -- h[0].append([0])
    refine ⟨.ref l, k2, l, _, 0, .ref a0, rfl, rfl, .of k3, at_zero, tyL k4, by show 1 ≤ sizeLine; decide, fun q hq => ?_⟩
    have nql : l ≠ q := ne_of_none k3 hq
    have nqa : a0 ≠ q := ne_of_none k4 hq
    have nqb : b0 ≠ q := ne_of_none k5 hq
    have ok5 := k1.to (Step.newO (o := .lst [.int 0]) k1.st.e2 hq)
    refine ⟨a0, as.map V.ref, .ref q, rfl, rfl, by rw [upd_ne nqa]; exact k4, sz6 (by rw [List.length_map]; omega), ?_⟩
    have ok6 := ok5.strayP (l := a0) (o := .lst (as.map V.ref ++ [.ref q])) pl4 (M0a a0 List.mem_cons_self) (Bn a0 (fa a0 List.mem_cons_self).2)
    have k3' : upd (upd H' q (.lst [.int 0])) a0 (.lst (as.map V.ref ++ [.ref q])) l = some (.lst [.ref a0, .ref b0]) := by
      rw [upd_ne (nal a0 List.mem_cons_self).symm, upd_ne nql]
      exact k3
    have k5' : upd (upd H' q (.lst [.int 0])) a0 (.lst (as.map V.ref ++ [.ref q])) b0 = some (.lst vs) := by
      rw [upd_ne (nab a0 List.mem_cons_self).symm, upd_ne nqb]
      exact k5
    generalize upd (upd H' q (.lst [V.int 0])) a0 (.lst (as.map V.ref ++ [.ref q])) = H6 at *
    -- h[1].append(0)
    refine ⟨.ref l, k2, l, _, 1, .ref b0, rfl, rfl, .of k3', at_nat (i := 1) rfl, tyL k5', b0, vs, .int 0, rfl, rfl, k5', sz6 (by rw [hrb.len]; omega), ?_⟩
    have ok7 := ok6.strayP (l := b0) (o := .lst (vs ++ [.int 0])) pl4 M0b (Bn b0 Hb)
    exact r2 E δ4 hT3 D M0 σ' _ (L.mono (t12.e0.trans sM.e0)) ok7
end
end J
/-! J26: within an except suite: a comprehension, isinstance of an error that has no dict -/
namespace J
open PySem PySem.Spec PyProof.Rows L2
/-! ### [elt for x in range(..)] while an error is handled -/
section
variable {X : Cx}
/-- a block that bears one more pin -/
theorem pin_one {Y : Cx} {σ : L2.St} {H : Hp} {s : Shared} {q : Addr × Obj} (I : Inv Y [] σ H s) (h1 : s.heap.get? q.1 = some q.2) (h2 : H q.1 = none) (h3 : q.1 ≠ Y.env.locals) (h4 : q.1 ∉ Y.fs) (h5 : ∀ v, q.2.data ≠ .cell v) : Inv Y [q] σ H s :=
  I.pins_of fun p hp => by
    rw [List.mem_singleton.mp hp]
    exact ⟨h1, h2, h3, h4, h5⟩
theorem pe_lcH {elt tg iter : Expr} {scope : Scope} {own : List (Str × Nat)} {pos : Pos} {wi : TI} {g : TG} {te : TE} (hot : L2H.HotC X) (nd : X.N.Nodup) (hi : L2H.PIH X tg iter wi) (bk : BlkOk X.N X.env.scope scope own)
    (hg : ∀ (t : Shared) (G : Hp) (C : Addr) (cl : List (Str × Addr)) (fp : List Addr), PG (X.blk t G scope (compEnvC scope cl C X.env) fp) tg g)
    (he : ∀ (t : Shared) (G : Hp) (C : Addr) (cl : List (Str × Addr)) (fp : List Addr), PE (X.blk t G scope (compEnvC scope cl C X.env) fp) elt te) (hs : ∀ x, foldedSetIterable iter X.env x = pure x := by intro _; rfl) :
    PE X (.ListComp elt [⟨tg, iter, [], 0⟩] scope pos) (tLc wi g tYes te (own.map (·.2))) := by
  constructor
  intro pins s σ H Q I h
  rw [eval_ListComp]
  have clo : closureFor scope X.env = pure _ := closure_ok fun y hy e => (bk.free y hy e).elim (fun k => I.ok.has _ (.inl k)) fun k => I.ok.has _ (.inr k)
  refine wpAny_comprehension_free rfl hs clo bk.kind (fun y hy e => (bk.uniq y hy).trans (congrArg some e)) ?_
  refine thn (hi.run pins s σ H _ I h) fun v0 s1 h1 => thn h1 fun v1 s2 h2 => ?_
  obtain ⟨it, fp, tn, J, G2, rfl, I2, T, t2, f2, hQ⟩ := h2
  obtain ⟨q, ⟨hh, us, du, cu⟩, hq⟩ := hot
  refine wpAny_newObj_type (newEnv_comp ?_) (by show 0 ≤ sizeLine; decide)
  have nL : G2 s2.heap.objs.size = none := I2.hok.fresh (Nat.le_refl _)
  obtain ⟨W, ⟨m0, w0⟩, turn⟩ := hQ s2.heap.objs.size nL
  generalize hl : s2.heap.objs.size = l at *
  -- the block, from the state in which the new list is laid
  suffices key : ∀ u : Shared, Inv X pins σ (upd G2 l (.lst [])) u → tn 0 u.heap → (∀ b ∈ fp, FpOk X pins (upd G2 l (.lst [])) b ∧ b < u.heap.objs.size) →
      codeAny (model X.prog X.w) X.A (.compStart (.ListComp elt [⟨tg, iter, [], 0⟩] scope pos) 0 (.ref it) (.ref l) (compEnvC scope (cellsFrom (u.heap.objs.size + 1) scope.names (cloFrom X.env.cells scope.names [])) u.heap.objs.size X.env))
        (compPost (model X.prog X.w) X.A X.xe none (EP X pins σ Q) (.ref l) u.heap.objs.size) { u with heap := pushCells (u.heap.push { cls := .type "dict", data := .dict #[] }) scope.names } by
    have less : ∀ b ∈ fp, b < s2.heap.objs.size := fun b hb => (T.obj _ _ t2 b hb).elim fun o z => Heap.lt_size z.1
    refine key { s2 with heap := s2.heap.push { cls := .type "list", data := .seq ([] : List Value).toArray } } ?_ (T.keep _ _ _ t2 fun b _ o z => Heap.get?_push_of_some _ z) fun b hb => ⟨⟨?_, (f2 b hb).2⟩, ?_⟩
    · refine I2.laid (t' := s2.toks) (fun _ _ z => Heap.get?_push_of_some _ z) (Nat.le_of_eq hl) ⟨Nat.zero_le _, [], 0, .nil, ?_⟩
      rw [← hl]
      exact Heap.get?_push_size _ rfl
    · rw [upd_ne fun z => Nat.lt_irrefl _ (by have := less b hb; rwa [z, hl] at this)]
      exact (f2 b hb).1
    · rw [Heap.size_push]
      exact Nat.lt_succ_of_lt (less b hb)
  intro u Iu tu fu
  generalize upd G2 l (.lst []) = G3 at *
  have Ib := block_start Iu bk nd fu
  have pg := hg u G3 u.heap.objs.size (cellsFrom (u.heap.objs.size + 1) scope.names (cloFrom X.env.cells scope.names [])) fp
  have pe := he u G3 u.heap.objs.size (cellsFrom (u.heap.objs.size + 1) scope.names (cloFrom X.env.cells scope.names [])) fp
  have old : ∀ b o, u.heap.get? b = some o → (pushCells (u.heap.push { cls := .type "dict", data := .dict #[] }) scope.names).get? b = some o := fun b o z => pushCells_keeps _ _ _ _ (Heap.get?_push_of_some _ z)
  have tb : tn 0 ({ u with heap := pushCells (u.heap.push { cls := .type "dict", data := .dict #[] }) scope.names } : Shared).heap := T.keep _ _ _ tu fun b _ o z => old b o z
  have loc : (compEnvC scope (cellsFrom (u.heap.objs.size + 1) scope.names (cloFrom X.env.cells scope.names [])) u.heap.objs.size X.env).locals = u.heap.objs.size := rfl
  generalize compEnvC scope (cellsFrom (u.heap.objs.size + 1) scope.names (cloFrom X.env.cells scope.names [])) u.heap.objs.size X.env = ce at *
  obtain ⟨p1, p2, p3, p4, p5⟩ := Iu.pin q (List.mem_append_left _ hq)
  have nq : ∀ b ∈ fp, q.1 ≠ b := fun b hb => (fu b hb).1.2.2.2.2.2 q (List.mem_append_left _ hq)
  have Ip : Inv (X.blk u G3 scope ce fp) [q] (wipe σ (own.map (·.2))) G3 _ := pin_one Ib (old _ _ p1) p2 (by rw [show (X.blk u G3 scope ce fp).env.locals = u.heap.objs.size from loc]; exact Nat.ne_of_lt (Heap.lt_size p1)) (fun z => by
    rcases List.mem_cons.mp (Iu.stkSub q.1 z) with e | e
    · exact p3 e
    · exact p4 e) p5
  generalize ({ u with heap := pushCells (u.heap.push { cls := .type "dict", data := .dict #[] }) scope.names } : Shared) = v at *
  have hotB : L2H.HotC ((X.blk u G3 scope ce fp).tr ([] ++ [q]) fun _ _ => False) := ⟨q, ⟨hh, us, du, cu⟩, List.mem_singleton.mpr rfl⟩
  have mine : ∀ {ρ : L2.St} {Hx : Hp} {x : Shared} {more : List (Addr × Obj)}, Inv (X.blk u G3 scope ce fp) more ρ Hx x → (∀ b ∈ fp, Hx b = none) → ∀ b ∈ fp, (∀ p ∈ more, p.1 ≠ b) → FpOk (X.blk u G3 scope ce fp) more Hx b := fun {ρ Hx x more} Ix hn b hb hm =>
    ⟨hn b hb, (Ix.ok.exf b hb).1, Ix.ok.exfs b hb, .inl hb, fun y c e => (Ix.ok.exf b hb).2 y c e, fun p hp => hm p (by rcases List.mem_append.mp hp with z | z; exact absurd z List.not_mem_nil; exact z)⟩
  have one : ∀ b ∈ fp, ∀ p ∈ [q], p.1 ≠ b := fun b hb p hp => by
    rw [List.mem_singleton.mp hp]
    exact nq b hb
  have mine2 : ∀ {ρ : L2.St} {Hx : Hp} {x : Shared}, Inv (X.blk u G3 scope ce fp) [q] ρ Hx x → (∀ b ∈ fp, Hx b = none) → ∀ b ∈ fp, FpOk ((X.blk u G3 scope ce fp).tr ([] ++ [q]) fun _ _ => False) [] Hx b := fun {ρ Hx x} Ix hn b hb => by
    obtain ⟨z1, z2, z3, z4, z5, z6⟩ := mine Ix hn b hb (one b hb)
    exact ⟨z1, z2, z3, z4, z5, fun p hp => z6 p (by rw [List.append_nil] at hp; exact hp)⟩
  have walk : codeAny (model X.prog X.w) X.A (.compLoop (.ListComp elt [⟨tg, iter, [], 0⟩] scope pos) 0 (.ref it) (.ref l) ce) (compPost (model X.prog X.w) X.A X.xe none (EP X pins σ Q) (.ref l) u.heap.objs.size) v := by
    refine compLoop_any (fun k x => ∃ i Hx, Inv (X.blk u G3 scope ce fp) [q] (wipe σ (own.map (·.2))) Hx x ∧ tn i x.heap ∧ (∀ b ∈ fp, Hx b = none) ∧ W i k Hx) (fun k x hk => ?_) m0 ⟨0, G3, Ip, tb, fun b hb => (fu b hb).1.1, w0⟩
    obtain ⟨i, Hx, Ix, tx, nx, wx⟩ := hk
    rcases turn i k Hx wx with ⟨stop, last⟩ | ⟨go, Nx, back, step⟩
    · refine thnF (T.done ((X.blk u G3 scope ce fp).tr ([] ++ [q]) fun _ _ => False) rfl rfl rfl hotB i [] x _ Hx (fun _ _ => False) (Ix.toTry _) (mine2 Ix nx) tx stop) fun r y ⟨er, Iy⟩ => ?_
      subst er
      have Iy := Inv.ofTry (X := X.blk u G3 scope ce fp) (pins := [q]) Iy Ix.ok
      obtain ⟨m, hm, _⟩ := id Iy.loc
      have free := Iy.free
      rw [show (X.blk u G3 scope ce fp).env.locals = u.heap.objs.size from loc] at hm free
      obtain ⟨g0, g1, _, g3, g4, g5⟩ := Iu.fpOk (Nat.le_refl _) free
      have Iz : Inv X pins σ Hx y := Iu.call' (ch := fp) Iy.os Iy.base Iy.hok Iy.bare fun b hb => ⟨(fu b hb).1.2.2.2.1, (fu b hb).1.2.1, (fu b hb).1.2.2.2.2.1, (fu b hb).1.2.2.2.2.2⟩
      exact ⟨m, hm, fun h' sb => ⟨.ref l, Hx, Iz.turned (t' := y.toks) (fun b o hb e => (sb.2 b hb).trans e) g0 g1 g3 g4 g5, rfl, last⟩⟩
    · refine thnF (T.item ((X.blk u G3 scope ce fp).tr ([] ++ [q]) fun _ _ => False) rfl rfl rfl hotB i [] x _ Hx (fun _ _ => False) (Ix.toTry _) (mine2 Ix nx) tx go) fun r y ⟨a, er, hy⟩ => ?_
      subst er
      refine thnF hy fun _ z ⟨d, Hz, Iz, rz, yz, tz, nz⟩ => ?_
      have Iz := Inv.ofTry (X := X.blk u G3 scope ce fp) (pins := [q]) Iz Ix.ok
      have pinned := Iz.pinned (fun b hb => mine Iz nz b hb (one b hb)) (T.obj _ _ tz)
      refine thnF (pg.run _ z _ Hz d a _ pinned rz (step d Hz yz)) fun _ z2 ⟨ρ, H2, I2, eρ, q2⟩ => ?_
      refine thnF ((pts_nil (X := X.blk u G3 scope ce fp)).run _ z2 ρ H2 _ I2 q2) fun b z3 ⟨H3, I3, q3⟩ => ?_
      -- one more turn is done
      have again : ∀ {z' : Shared} {H' : Hp}, Inv (X.blk u G3 scope ce fp) ([q] ++ pinsAt fp z.heap) ρ H' z' → Nx H' → ∃ k', k' < k ∧ ∃ i Hx, Inv (X.blk u G3 scope ce fp) [q] (wipe σ (own.map (·.2))) Hx z' ∧ tn i z'.heap ∧ (∀ b ∈ fp, Hx b = none) ∧ W i k' Hx := fun {z' H'} I' hN => by
        obtain ⟨k', lt, w'⟩ := back H' hN
        have kept : ∀ b ∈ fp, ∀ o, z.heap.get? b = some o → z'.heap.get? b = some o ∧ H' b = none := fun b hb o e => by
          obtain ⟨y1, y2, _⟩ := I'.pin (b, o) (List.mem_append_right _ (List.mem_append_right _ (mem_pinsAt hb e)))
          exact ⟨y1, y2⟩
        refine ⟨k', lt, i + 1, H', (I'.unpinned (pins := [q])).weak (by rw [← eρ, wipe_length]) (fun j w e => ?_), T.keep _ _ _ tz fun b hb o e => (kept b hb o e).1, fun b hb => ?_, w'⟩
        · rw [← eρ] at e
          exact (wipe_some e).1
        · obtain ⟨o, e, _⟩ := T.obj _ _ tz b hb
          exact (kept b hb o e).2
      cases b with
      | false =>
        rw [if_neg Bool.false_ne_true] at q3
        rw [if_neg Bool.false_ne_true]
        exact again I3 q3
      | true =>
        rw [if_pos rfl] at q3
        rw [if_pos rfl]
        refine thnF (pe.run _ z3 ρ H3 _ I3 q3) fun e z4 ⟨y4, H4, I4, r4, acc, at4, few4, N4⟩ => ?_
        exact app_ok (X := X.blk u G3 scope ce fp) I4 at4 few4 r4 fun z5 I5 => again I5 N4
  exact codeAny_compStart_list walk (T.self X.A 0 _ _ _ tb walk)
end
/-! ### isinstance of the caught error, which has no dict -/
/-- isinstance(e, c), e the exception that the suite holds, its class one of the program's -/
def rIsN (K : PySem.W.Frag) (a : Addr) (cls : Value) (d : Option Addr) : List V → Hp → VK → Prop := fun xs H Q => ∃ D : Addr, cls = .ref D ∧ d = none ∧ ExcC K D ∧ rIsE K D a xs H Q
theorem call_isN {X : Cx} {a : Addr} {cls : Value} {d : Option Addr} {oe : Obj} {pn : List (Addr × Obj)} (hz : Zc cls d oe) (hf : ∃ vs, oe.data = .fields vs) : CallR (X.suite a ((a, oe) :: pn)) (.builtin "isinstance") (rIsN X.K a cls d) := fun pins s σ H xs us Q I r ⟨D, e1, e2, C, h⟩ => by
  subst e1 e2
  exact call_isE C hz hf pins s σ H xs us Q I r h
end J
/-! J27: defs that give something or raise an error of an own class without fields; functions as values; small displays -/
namespace J
open PySem PySem.Spec PyProof.Rows L2
/-- what is given, of which classes an error may be -/
abbrev GX : Type := List D → (D → Prop) → (Addr → Prop) → Prop
def spXD (K : PySem.W.Frag) (n : Nat) (G : GX) : Sp := fun vs H Q E => vs.length = n ∧ ∃ ds P R H0, G ds P R ∧ Same H0 H ∧ RepL K H0 vs ds ∧ Kont K H0 H P Q ∧ ∀ C H', R C → Same H H' → E (.ref C) none H'
def spIX (K : PySem.W.Frag) (C : Addr) (n : Nat) (G : GX) : Sp := fun vs H Q E => ∃ x dx ws ds P R H0, vs = .ref x :: ws ∧ ws.length = n ∧ H x = some (.ins C dx []) ∧ H0 x = none ∧ Same H0 H ∧ RepL K H0 ws ds ∧ G ds P R ∧
  (∀ d G0 G', P d → Step H0 (hide H x) G0 G' → Res K (hide H x) G0 G' (.ref x) d → Q .non G') ∧ ∀ D H', R D → Same (hide H x) H' → E (.ref D) none H'
structure XDef (P : Program) (w : World) (K : PySem.W.Frag) (mg : Str → Option Value) (base : Heap) (x : Str) (k n : Nat) (G : GX) : Prop where
  ex : ∃ f fd ps, FnOk P w K mg base (L2N.CX P w) k f fd ps (spXD K n G) ∧ mg x = some (.ref f) ∧ PySem.W.keepIn K (.ref f) = true ∧ Binds K fd ps []
structure XMDef (P : Program) (w : World) (K : PySem.W.Frag) (mg : Str → Option Value) (base : Heap) (C : Addr) (x : Str) (k n : Nat) (G : GX) : Prop where
  ex : ∃ f fd ps, FnOk P w K mg base (L2N.CX P w) k f fd ps (spXD K n G) ∧ Meth K C x f ∧ Binds K fd ps []
structure XCDef (P : Program) (w : World) (K : PySem.W.Frag) (mg : Str → Option Value) (base : Heap) (C : Addr) (x : Str) (k n : Nat) (G : GX) : Prop where
  ex : ∃ f fd ps, FnOk P w K mg base (L2N.CX P w) k f fd ps (spIX K C n G) ∧ mg x = some (.ref C) ∧ Mk K C f ∧ Binds K fd ps []
/-- a def, by its address -/
structure FDef (P : Program) (w : World) (K : PySem.W.Frag) (mg : Str → Option Value) (base : Heap) (CX : CXT) (f : Addr) (k : Nat) (sp : Sp) : Prop where
  ex : ∃ fd ps, FnOk P w K mg base CX k f fd ps sp ∧ PySem.W.keepIn K (.ref f) = true ∧ Binds K fd ps []
/-- an expression that may raise: judged where B is known to stand -/
structure PXd (X : Cx) (B : Hp) (e : Expr) (te : TE) (T : DE) : Prop where
  p : PE X e te
  s : ∀ δ P, T δ P → ∀ H0 H1 σ Q, Same B H1 → Same H0 H1 → EnvE X.K H0 H1 δ σ → Kont X.K H0 H1 P Q → te σ H1 Q
/-- what the def's context wants of errors -/
abbrev Wants (X : Cx) (B : Hp) (E : XK) (R : Addr → Prop) : Prop := ∀ C H', R C → Same B H' → E (.ref C) none H'
def dCallX (G : GX) (R : Addr → Prop) (t : DA) : DE := fun δ P => t δ fun ds => ds.all D.plain = true ∧ G ds P R
def dMethX (C : Addr) (m : Str) (G : GX) (R : Addr → Prop) (to : DE) (t : DA) : DE := fun δ P => to δ fun x => x.un.isA C m ∧ t δ fun ds => (x.un :: ds).all D.plain = true ∧ G (x.un :: ds) P R
def dCallV (HV : Addr → GD → Prop) (tf : DE) (t : DA) : DE := fun δ P => tf δ fun x => ∃ f G, x.un = .fn f ∧ HV f G ∧ t δ fun ds => ds.all D.plain = true ∧ G ds P
def dCallVX (HV : Addr → GX → Prop) (R : Addr → Prop) (tf : DE) (t : DA) : DE := fun δ P => tf δ fun x => ∃ f G, x.un = .fn f ∧ HV f G ∧ t δ fun ds => ds.all D.plain = true ∧ G ds P R
section
variable {X : Cx} {B : Hp} {e e2 fe : Expr} {es : List Expr} {pos : Pos} {E : XK} {R : Addr → Prop} {tr : DA} {ur : TA} {T : DE} {u : TE} {n : Nat} {G : GX} {K : PySem.W.Frag}
theorem pass0N : Passes (L2N.CX X.prog X.w) X (fun _ _ _ => False) := fun _ _ _ _ _ _ _ c => by
  obtain ⟨_, _, _, _, _, _, _, _, _, _, _, _, z⟩ := c
  exact z.elim
theorem px_of (h : PEd X e u T) : PXd X B e u T := ⟨h.p, fun δ P hT H0 H1 σ Q _ => h.s δ P hT H0 H1 σ Q⟩
theorem px_if {c : Expr} {ut : TT} {t : DT} {ua ub : TE} {ta tb : DE} (hc : PTd X c ut t) (h : PXd X B e ua ta) (h2 : PXd X B e2 ub tb) : PXd X B (.IfExp c e e2 pos) (tIf ut ua ub) (dIf t ta tb) := by
  refine ⟨pe_ifExp hc.p h.p h2.p, fun δ P hT H0 H1 σ Q eB e env k => hc.s δ _ hT H0 H1 σ _ e env fun b I hp s => ?_⟩
  have k2 : Kont X.K H0 I P Q := fun v d I0 J hp t r => k v d I0 J hp ⟨s.trans t.e1, t.e0, t.e2, fun a o q n => s.free (t.fr a o q n)⟩ (r.back s)
  cases b with
  | true =>
    rw [if_pos rfl]
    exact h.s δ _ hp H0 I σ Q (eB.trans s) (e.trans s) (env.to (Same.refl _) s) k2
  | false =>
    rw [if_neg Bool.false_ne_true]
    exact h2.s δ _ hp H0 I σ Q (eB.trans s) (e.trans s) (env.to (Same.refl _) s) k2
/-! ### calls -/
theorem snd_callX (hn : ∀ ds P R, G ds P R → ds.length = n) (hR : ∀ C H', R C → Same B H' → E (.ref C) none H') (hs : SndA K ur tr) : ∀ δ P, dCallX G R tr δ P → ∀ H0 H1 σ Q, Same B H1 → Same H0 H1 → EnvE K H0 H1 δ σ → Kont K H0 H1 P Q → tCall (spXD K n G) [] E ur σ H1 Q :=
  fun δ P hT H0 H1 σ Q eB e env k => hs δ _ hT H0 H1 σ _ e env fun vs ds G0 G1 hx s al => by
    have r := al.rep hx.1
    rw [List.append_nil]
    exact ⟨r.len.trans (hn _ _ _ hx.2), ds, P, R, G0, hx.2, s.e2, r, k.after s, fun C H' hC e' => hR C H' hC ((eB.trans s.e1).trans e')⟩
theorem px_def {x : Str} {p : Pos} {k : Nat} (d : XDef X.prog X.w X.K X.mg X.base x k n G) (hn : ∀ ds P R, G ds P R → ds.length = n) (hr : Room k X.A) (ps : Passes (L2N.CX X.prog X.w) X E) (hR : ∀ C H', R C → Same B H' → E (.ref C) none H')
    (ha : PAd X (e :: es) ur tr) (hg : Gl X x := by rfl) (hdb : (x == ("__debug__" : Str)) = false := by decide) (he : starEach (e :: es) X.env = (false, eval e X.env) :: starEach es X.env := by rfl) (hpl : (backTo pos (starEach es X.env)).any (·.1) = false := by rfl) :
    PXd X B (.Call (.Name x p) (e :: es) [] pos) (tCall (spXD X.K n G) [] E ur) (dCallX G R tr) := by
  obtain ⟨f, fd, qs, F, m, kp, b⟩ := d.ex
  exact ⟨pe_call F hr hg m kp b .nil ps ha.p hdb he hpl, snd_callX hn hR ha.s⟩
/-- where nothing may be raised -/
theorem pd_defX {x : Str} {p : Pos} {k : Nat} (d : XDef X.prog X.w X.K X.mg X.base x k n G) (hn : ∀ ds P R, G ds P R → ds.length = n) (hr : Room k X.A)
    (ha : PAd X (e :: es) ur tr) (hg : Gl X x := by rfl) (hdb : (x == ("__debug__" : Str)) = false := by decide) (he : starEach (e :: es) X.env = (false, eval e X.env) :: starEach es X.env := by rfl) (hpl : (backTo pos (starEach es X.env)).any (·.1) = false := by rfl) :
    PEd X (.Call (.Name x p) (e :: es) [] pos) (tCall (spXD X.K n G) [] (fun _ _ _ => False) ur) (dCallX G (fun _ => False) tr) := by
  obtain ⟨f, fd, qs, F, m, kp, b⟩ := d.ex
  exact ⟨pe_call F hr hg m kp b .nil pass0N ha.p hdb he hpl, fun δ P hT H0 H1 σ Q e env k => snd_callX (B := H1) hn (fun _ _ z => z.elim) ha.s δ P hT H0 H1 σ Q (Same.refl _) e env k⟩
theorem snd_methX {C : Addr} {m : Str} {to : DE} {uo : TE} (hn : ∀ ds P R, G ds P R → ds.length = n) (hR : ∀ C H', R C → Same B H' → E (.ref C) none H') (ho : SndE K uo to) (hs : SndA K ur tr) : ∀ δ P, dMethX C m G R to tr δ P → ∀ H0 H1 σ Q, Same B H1 → Same H0 H1 → EnvE K H0 H1 δ σ → Kont K H0 H1 P Q → tMeth C m (spXD K n G) [] E uo ur σ H1 Q :=
  fun δ P hT H0 H1 σ Q eB e env k => ho δ _ hT H0 H1 σ _ e env fun v x G0 G1 hx s r => by
    obtain ⟨p, o⟩ := r.un
    obtain ⟨a, dx, fs, ev, h1, h2⟩ := o.isA s.e2 hx.1
    refine ⟨a, dx, fs, ev, h1, h2, hs δ _ hx.2 G0 G1 σ _ s.e2 (env.to s.e0 s.e1) fun vs ds I0 I hy s2 al => ?_⟩
    have rr := AL.rep (K := K) (.cons ⟨p, o.to s2.e0 s2.e1⟩ al) hy.1
    rw [List.append_nil]
    exact ⟨rr.len.trans (hn _ _ _ hy.2), _, P, R, I0, hy.2, s2.e2, rr, k.after (s.trans s2), fun C H' hC e' => hR C H' hC (((eB.trans s.e1).trans s2.e1).trans e')⟩
theorem px_mdef {x : Str} {p : Pos} {k : Nat} {C : Addr} {pl : Sem Bool} {o : Expr} {uo : TE} {to : DE} (cl : Cls X.K C) (d : XMDef X.prog X.w X.K X.mg X.base C x k n G) (hn : ∀ ds P R, G ds P R → ds.length = n) (hr : Room k X.A) (ps : Passes (L2N.CX X.prog X.w) X E)
    (hR : ∀ C H', R C → Same B H' → E (.ref C) none H') (ho : PEd X o uo to)
    (ha : PAd X (e :: es) ur tr) (hst : starEach (e :: es) X.env = (false, eval e X.env) :: starEach es X.env := by rfl) (hpl : (backTo pos (starEach es X.env)).any (·.1) = false := by rfl)
    (ht : eval (.Call (.Attribute o x p) (e :: es) [] pos) X.env = (do
      let ov ← eval o X.env
      standAt p.atName
      let (f, first) ← holding [ov] (getMethod ov x pl)
      callWith pos f first (backTo pos (starEach (e :: es) X.env)) (backToKw pos (keywordEach [] X.env))) := by rfl) :
    PXd X B (.Call (.Attribute o x p) (e :: es) [] pos) (tMeth C x (spXD X.K n G) [] E uo ur) (dMethX C x G R to tr) := by
  obtain ⟨f, fd, qs, F, m, b⟩ := d.ex
  exact ⟨pe_meth ho.p cl m F hr b .nil ps ha.p hst hpl ht, snd_methX hn hR ho.s ha.s⟩
theorem snd_makeX {C : Addr} (hn : ∀ ds P R, G ds P R → ds.length = n) (hR : ∀ C H', R C → Same B H' → E (.ref C) none H') (hs : SndA K ur tr) : ∀ δ P, dCallX G R tr δ P → ∀ H0 H1 σ Q, Same B H1 → Same H0 H1 → EnvE K H0 H1 δ σ → Kont K H0 H1 P Q → tMake C (spIX K C n G) [] E ur σ H1 Q :=
  fun δ P hT H0 H1 σ Q eB e env k => hs δ _ hT H0 H1 σ _ e env fun vs ds G0 G1 hx s al => by
    have r := al.rep hx.1
    intro x dx nx ndx ne
    have nx0 : G0 x = none := s.e2.free nx
    have e1 : Same G1 (upd (upd G1 dx (.own x)) x (.ins C dx [])) := (same_new ndx).trans (same_new (by rw [upd_ne (Ne.symm ne)]; exact nx))
    have e2 : Same G1 (hide (upd (upd G1 dx (.own x)) x (.ins C dx [])) x) := same_hide e1 nx
    refine ⟨x, dx, vs, ds, P, R, G0, by rw [List.append_nil], r.len.trans (hn _ _ _ hx.2), upd_same, nx0, s.e2.trans e1, r, hx.2, fun d I0 I hp s2 rr => ⟨rfl, ?_⟩, fun D H' hD e' => hR D H' hD (((eB.trans s.e1).trans e2).trans e')⟩
    exact (k.after s) _ d I0 I hp ⟨e2.trans s2.e1, s2.e0, s2.e2, fun a o q n => e2.free (s2.fr a o q n)⟩ (rr.back e2)
theorem px_cdef {x : Str} {p : Pos} {k : Nat} {C : Addr} (d : XCDef X.prog X.w X.K X.mg X.base C x k n G) (hn : ∀ ds P R, G ds P R → ds.length = n) (hr : Room (k + 1) X.A) (ps : Passes (L2N.CX X.prog X.w) X E) (hR : ∀ C H', R C → Same B H' → E (.ref C) none H')
    (ha : PAd X (e :: es) ur tr) (hg : Gl X x := by rfl) (hdb : (x == ("__debug__" : Str)) = false := by decide) (he : starEach (e :: es) X.env = (false, eval e X.env) :: starEach es X.env := by rfl) (hpl : (backTo pos (starEach es X.env)).any (·.1) = false := by rfl) :
    PXd X B (.Call (.Name x p) (e :: es) [] pos) (tMake C (spIX X.K C n G) [] E ur) (dCallX G R tr) := by
  obtain ⟨f, fd, qs, F, m, M, b⟩ := d.ex
  exact ⟨pe_make M F hr hg m b .nil ps ha.p hdb he hpl, snd_makeX hn hR ha.s⟩
theorem pd_cdefX {x : Str} {p : Pos} {k : Nat} {C : Addr} (d : XCDef X.prog X.w X.K X.mg X.base C x k n G) (hn : ∀ ds P R, G ds P R → ds.length = n) (hr : Room (k + 1) X.A)
    (ha : PAd X (e :: es) ur tr) (hg : Gl X x := by rfl) (hdb : (x == ("__debug__" : Str)) = false := by decide) (he : starEach (e :: es) X.env = (false, eval e X.env) :: starEach es X.env := by rfl) (hpl : (backTo pos (starEach es X.env)).any (·.1) = false := by rfl) :
    PEd X (.Call (.Name x p) (e :: es) [] pos) (tMake C (spIX X.K C n G) [] (fun _ _ _ => False) ur) (dCallX G (fun _ => False) tr) := by
  obtain ⟨f, fd, qs, F, m, M, b⟩ := d.ex
  exact ⟨pe_make M F hr hg m b .nil pass0N ha.p hdb he hpl, fun δ P hT H0 H1 σ Q e env k => snd_makeX (B := H1) hn (fun _ _ z => z.elim) ha.s δ P hT H0 H1 σ Q (Same.refl _) e env k⟩
/-! ### f(..), f any expression that gives a def -/
def tCallE (HS : Addr → Sp → Prop) (E : XK) (tf : TE) (t : TA) : TE := fun σ H Q => tf σ H fun x H0 => ∃ f sp, x = .ref f ∧ HS f sp ∧ t σ H0 fun vs H1 => sp vs H1 Q E
theorem pe_callE {CX : CXT} {HS : Addr → Sp → Prop} {k : Nat} {uf : TE} (hS : ∀ f sp, HS f sp → FDef X.prog X.w X.K X.mg X.base CX f k sp) (hr : Room k X.A) (ps : Passes CX X E) (hf : PE X fe uf) (ha : PA X (e :: es) ur)
    (arm : eval (.Call fe (e :: es) [] pos) X.env = (do callWith pos (← eval fe X.env) [] (backTo pos (starEach (e :: es) X.env)) (backToKw pos (keywordEach [] X.env))) := by rfl)
    (he : starEach (e :: es) X.env = (false, eval e X.env) :: starEach es X.env := by rfl) (hpl : (backTo pos (starEach es X.env)).any (·.1) = false := by rfl) : PE X (.Call fe (e :: es) [] pos) (tCallE HS E uf ur) := by
  constructor
  intro pins s σ H Q I h
  rw [arm]
  refine wpAny_bind (thn (hf.run pins s σ H _ I h) fun v s1 ⟨x, H1, I1, r1, f, sp, ex, hs, q1⟩ => ?_)
  subst ex
  cases r1
  obtain ⟨fd, qs, F, kp, b⟩ := (hS f sp hs).ex
  refine PySem.W.callWith_K (h₀ := X.base) I1.ok.mod.kin kp (thn (ha.run pos pins s1 σ _ _ I1 q1) fun us s2 ⟨vs, H2, I2, r2, q2⟩ => ⟨I2.kIn, ?_⟩) he hpl
  exact run_fn (dvs := []) F hr b .nil ps I2 r2 (by rw [List.append_nil]; exact q2)
theorem Own.fn {H0 H1 : Hp} {p : List Addr} {v : V} {f : Addr} (o : Own K H0 H1 p v (.fn f)) : v = .ref f := by cases o.rep; rfl
theorem pd_callV {HV : Addr → GD → Prop} {k : Nat} {uf : TE} {tf : DE} (hV : ∀ f G, HV f G → FDef X.prog X.w X.K X.mg X.base CX0 f k (spD X.K n G)) (hn : ∀ f G, HV f G → ∀ ds P, G ds P → ds.length = n) (hr : Room k X.A) (hf : PEd X fe uf tf) (ha : PAd X (e :: es) ur tr)
    (arm : eval (.Call fe (e :: es) [] pos) X.env = (do callWith pos (← eval fe X.env) [] (backTo pos (starEach (e :: es) X.env)) (backToKw pos (keywordEach [] X.env))) := by rfl)
    (he : starEach (e :: es) X.env = (false, eval e X.env) :: starEach es X.env := by rfl) (hpl : (backTo pos (starEach es X.env)).any (·.1) = false := by rfl) :
    PEd X (.Call fe (e :: es) [] pos) (tCallE (fun f sp => ∃ G, HV f G ∧ sp = spD X.K n G) E0 uf ur) (dCallV HV tf tr) := by
  refine ⟨pe_callE (CX := CX0) (k := k) (fun f sp ⟨G, h, e⟩ => e ▸ hV f G h) hr pass0 hf.p ha.p arm he hpl, fun δ P hT H0 H1 σ Q e env k => ?_⟩
  refine hf.s δ _ hT H0 H1 σ _ e env fun v x G0 G1 hx s r => ?_
  obtain ⟨f, G, ef, hG, hx⟩ := hx
  obtain ⟨p, o⟩ := r.un
  rw [ef] at o
  refine ⟨f, _, o.fn, ⟨G, hG, rfl⟩, ha.s δ _ hx G0 G1 σ _ s.e2 (env.to s.e0 s.e1) fun vs ds I0 I hy s2 al => ?_⟩
  have rr := al.rep hy.1
  exact ⟨rr.len.trans (hn f G hG _ _ hy.2), ds, P, I0, hy.2, s2.e2, rr, k.after (s.trans s2)⟩
theorem px_callV {HV : Addr → GX → Prop} {k : Nat} {uf : TE} {tf : DE} (hV : ∀ f G, HV f G → FDef X.prog X.w X.K X.mg X.base (L2N.CX X.prog X.w) f k (spXD X.K n G)) (hn : ∀ f G, HV f G → ∀ ds P R, G ds P R → ds.length = n) (hr : Room k X.A) (ps : Passes (L2N.CX X.prog X.w) X E)
    (hR : ∀ C H', R C → Same B H' → E (.ref C) none H') (hf : PEd X fe uf tf) (ha : PAd X (e :: es) ur tr)
    (arm : eval (.Call fe (e :: es) [] pos) X.env = (do callWith pos (← eval fe X.env) [] (backTo pos (starEach (e :: es) X.env)) (backToKw pos (keywordEach [] X.env))) := by rfl)
    (he : starEach (e :: es) X.env = (false, eval e X.env) :: starEach es X.env := by rfl) (hpl : (backTo pos (starEach es X.env)).any (·.1) = false := by rfl) :
    PXd X B (.Call fe (e :: es) [] pos) (tCallE (fun f sp => ∃ G, HV f G ∧ sp = spXD X.K n G) E uf ur) (dCallVX HV R tf tr) := by
  refine ⟨pe_callE (CX := L2N.CX X.prog X.w) (k := k) (fun f sp ⟨G, h, e⟩ => e ▸ hV f G h) hr ps hf.p ha.p arm he hpl, fun δ P hT H0 H1 σ Q eB e env k => ?_⟩
  refine hf.s δ _ hT H0 H1 σ _ e env fun v x G0 G1 hx s r => ?_
  obtain ⟨f, G, ef, hG, hx⟩ := hx
  obtain ⟨p, o⟩ := r.un
  rw [ef] at o
  refine ⟨f, _, o.fn, ⟨G, hG, rfl⟩, ha.s δ _ hx G0 G1 σ _ s.e2 (env.to s.e0 s.e1) fun vs ds I0 I hy s2 al => ?_⟩
  have rr := al.rep hy.1
  exact ⟨rr.len.trans (hn f G hG _ _ _ hy.2), ds, P, R, I0, hy.2, s2.e2, rr, k.after (s.trans s2), fun C H' hC e' => hR C H' hC (((eB.trans s.e1).trans s2.e1).trans e')⟩
/-- a def's name, as a value -/
theorem pd_fnc {y : Str} {f : Addr} {p : Pos} (hm : X.mg y = some (.ref f)) (hg : Gl X y := by rfl) (hd : (y == ("__debug__" : Str)) = false := by decide) : PEd X (.Name y p) (tC (.ref f)) (dC (.fn f)) := pd_c (pe_own hm hg hd) fun _ => .fn f
/-- {} -/
def dDct : DE := fun _ P => P (.dct [])
theorem pd_dct {p : Pos} : PEd X (.Dict [] [] p) tDNewT dDct := ⟨pe_dnewT, fun δ P hT H0 H1 σ Q e env k a ha => k (.ref a) (.dct []) _ _ hT (Step.new e ha) (Res.rep (.dct upd_same))⟩
/-! ### statements -/
variable {He : Hp}
theorem sd_exprX (h : PXd X B e u T) (hs : swapsWith e none pos.line X.env = pure false := by rfl) : PSd X B He (.Expr e pos) (dDrop T) :=
  ⟨_, ps_expr h.p hs, fun E δ hT D H0 σ H L ok => h.s δ _ hT H0 H σ _ ok.st.e1 ok.st.e2 ok.env fun v x G0 G hx s r => L.nx δ G0 σ G hx (ok.to s) s.e0⟩
theorem sd_retX (h : PXd X B e u T) : PSd X B He (.Return (some e) pos) (dRet T) := by
  refine ⟨_, ps_ret h.p, fun E δ hT D H0 σ H L ok => ?_⟩
  obtain ⟨G0, ok2, _⟩ := ok.fz
  exact h.s _ _ hT G0 H σ _ ok2.st.e1 ok2.st.e2 ok2.env fun v x I0 I hx s r => L.rt x v I0 I hx (ok2.st.trans s) (r.back ok2.st.e1)
/-- what is asked of an own error class without own __init__ -/
structure OwnE (K : PySem.W.Frag) (C : Addr) : Prop where
  q : PySem.W.excIn K C [.type "ValueError", .type "Exception", .type "BaseException", .type "object"] "ValueError.__new__" = true
  kp : PySem.W.keepIn K (.ref C) = true
  sb : PySem.W.subIn K (.ref C) (.type "BaseException") = some true
  ty : PySem.W.typeIn K (.ref C) = some (.type "type")
def ownB (K : PySem.W.Frag) (C : Addr) : Bool := PySem.W.excIn K C [.type "ValueError", .type "Exception", .type "BaseException", .type "object"] "ValueError.__new__" && (PySem.W.keepIn K (.ref C) && (decide (PySem.W.subIn K (.ref C) (.type "BaseException") = some true) && decide (PySem.W.typeIn K (.ref C) = some (.type "type"))))
theorem ownB_ok {K : PySem.W.Frag} {C : Addr} (h : ownB K C = true) : OwnE K C := by
  obtain ⟨h1, h⟩ := Bool.and_eq_true_iff.mp h
  obtain ⟨h2, h⟩ := Bool.and_eq_true_iff.mp h
  obtain ⟨h3, h4⟩ := Bool.and_eq_true_iff.mp h
  exact ⟨h1, h2, of_decide_eq_true h3, of_decide_eq_true h4⟩
def dRaiseC (C : Addr) (R : Addr → Prop) : DS := fun _ _ => R C
theorem sd_raiseC {C : Addr} {x m : Str} {j : Nat} {p p2 p3 : Pos} (hc : X.calm = true) (tk : L2N.Takes X (fun cls d _ H => E cls d H)) (o : OwnE X.K C) (gC : X.mg x = some (.ref C)) (hR : ∀ C H', R C → Same B H' → E (.ref C) none H') (hg : Gl X x := by rfl) (hdb : (x == ("__debug__" : Str)) = false := by decide) :
    PSd X B He (.Raise (some (.Call (.Name x p) [.Constant (.str m) j p2] [] p3)) none pos) (dRaiseC C R) :=
  ⟨_, L2N.ps_raise hc tk (L2N.pmk_own PySem.F.excBase_ValueError o.q gC o.kp (raises_own o.sb o.ty) hg hdb), fun _ δ h D H0 σ H L ok => hR C H h ok.st.e1⟩
end
section
variable {P : Program} {w : World} {K : PySem.W.Frag} {mg : Str → Option Value} {base : Heap} {x qual : Str} {params : Arguments} {body : List Stmt} {scope : Scope} {f C : Addr} {fd : FuncData} {N ps : List Str} {k m : Nat}
/-- by its body -/
theorem fn_okXD {T : (Addr → Prop) → DS} {G : GX} (F : FunD K x qual params body scope [] [] f fd) (S : FnScope N ps scope) (hn : ps.length = m)
    (hb : ∀ (cdv : Value) (A : Around) (outer : List Env) (s : Shared) (H B He : Hp) (E : XK) (R : Addr → Prop), Room k (A.deeper (envOfC qual scope s.heap.objs.size f cdv)) → (∀ C H', R C → Same B H' → E (.ref C) none H') → PSsd (CxX P w K mg base N qual scope f cdv A outer s H E) B He body (T R))
    (hT : ∀ ds Q R, G ds Q R → T R { nx := fun _ => Q .non, rt := Q } (δof N.length ds)) : FnOk P w K mg base (L2N.CX P w) (k + 1) f fd ps (spXD K m G) := by
  refine F.ok S (fun vs H Q E h => h.1.trans hn.symm) fun cdv A outer s H vs Q E hr h => ?_
  obtain ⟨_, ds, Pd, R, H0, hG, e, r, kt, kE⟩ := h
  obtain ⟨t, h1, h2⟩ := (hb cdv A outer s H H H0 E R hr fun C H' hC s' => kE C H' hC s').ex
  refine ⟨t, h1, h2 _ _ (hT ds Pd R hG) _ H0 _ H ⟨fun δ G0 σ G hq ok _ => ?_, fun d v G0 G hq s r => ?_, fun δ G0 σ G hq _ _ => hq.elim, fun δ G0 σ G hq _ _ => hq.elim⟩ (ok_start e r)⟩
  · exact kt .non .non G0 G hq ok.st (Res.rep .non)
  · exact kt v d G0 G hq s r
/-- an __init__, its ways told one by one -/
theorem fn_iniX {n : Nat} {G : GX} (F : FunD K x qual params body scope [] [] f fd) (S : FnScope N ps scope) (hn : ps.length = n + 1)
    (hb : ∀ (cdv : Value) (A : Around) (outer : List Env) (s : Shared) (H0 H B : Hp) (x : Addr) (ds : List D) (R : D → Prop) (R' : Addr → Prop) (E : XK) (D' : Ends) (σ : L2.St), Room k (A.deeper (envOfC qual scope s.heap.objs.size f cdv)) → G ds R R' → (∀ D H', R' D → Same B H' → E (.ref D) none H') →
      InI K C B H0 H0 (DV.no :: δof (N.length - 1) ds) σ H x [] →
      (∀ gs G0 σ G, R (.mv (.oobj C gs)) → InI K C B H0 G0 (DV.no :: δof (N.length - 1) ds) σ G x gs → D'.nx σ G) → ∃ t, PSs (CxX P w K mg base N qual scope f cdv A outer s H E) body t ∧ t D' σ H) : FnOk P w K mg base (L2N.CX P w) (k + 1) f fd ps (spIX K C n G) := by
  refine F.ok S (fun vs H Q E h => ?_) fun cdv A outer s H vs Q E hr h => ?_
  · obtain ⟨_, _, ws, _, _, _, _, rfl, hl, _⟩ := h
    rw [List.length_cons, hl, hn]
  · obtain ⟨x, dx, ws, ds, Pd, R, H0, rfl, hl, ho, hx, e, r, hG, kt, kE⟩ := h
    exact hb cdv A outer s H0 H (hide H x) x ds Pd R E { nx := fun _ H' => Q .non H', rt := Q } (L2.start N (.ref x :: ws)) hr hG (fun D H' hD e' => kE D H' hD e') (ini_start ho hx e r) fun gs G0 σ G hR I => kt _ G0 G hR I.st I.res
end
end J
/-! J28: an __init__ that raises; len(set(ps)), some perhaps alike; data of any sort -/
namespace J
open PySem PySem.Spec PyProof.Rows L2
section
variable {X : Cx} {C : Addr} {B He H0 H : Hp} {δ : List DV} {σ : L2.St} {x : Addr} {gs : List (Str × D)} {D' : Ends} {rest : List Stmt} {pos : Pos} {E : XK} {R : Addr → Prop}
/-- if c: raise C2('m'), taken -/
theorem any_raise {c : Expr} {ut : TT} {T : DT} {C2 : Addr} {y m : Str} {j : Nat} {p p2 p3 p4 : Pos} (hc : PTd X c ut T) (h : InI X.K C B He H0 δ σ H x gs) (hT : T δ fun b => b = true) (calm : X.calm = true) (tk : L2N.Takes X (fun cls d _ H => E cls d H)) (o : OwnE X.K C2) (gC : X.mg y = some (.ref C2))
    (hR : ∀ C H', R C → Same B H' → E (.ref C) none H') (r : R C2) (hg : Gl X y := by rfl) (hdb : (y == ("__debug__" : Str)) = false := by decide) :
    tAny X (.If c [.Raise (some (.Call (.Name y p) [.Constant (.str m) j p2] [] p3)) none p4] [] pos :: rest) D' σ H := by
  refine ⟨_, pss_cons (ps_if hc.p (pss_one (L2N.ps_raise calm tk (L2N.pmk_own PySem.F.excBase_ValueError o.q gC o.kp (raises_own o.sb o.ty) hg hdb))) pss_nil) pss_any, ?_⟩
  refine hc.s δ _ hT H0 H σ _ h.st.e2 h.env.env fun b G hb s => ?_
  rw [hb, if_pos rfl]
  exact hR C2 G r (h.st.e1.trans s)
end
/-! ### len(set(ps)) -/
theorem nodup_len {α : Type} : ∀ {xs ys : List α}, xs.Nodup → (∀ x ∈ xs, x ∈ ys) → xs.length ≤ ys.length
  | [], _, _, _ => Nat.zero_le _
  | x :: xs, ys, nd, h => by
    obtain ⟨n1, n2⟩ := List.nodup_cons.mp nd
    obtain ⟨a, b, e⟩ := List.append_of_mem (h x List.mem_cons_self)
    have z := nodup_len (ys := a ++ b) n2 fun y hy => by
      have m := h y (List.mem_cons_of_mem _ hy)
      rw [e] at m
      rcases List.mem_append.mp m with m | m
      · exact List.mem_append_left _ m
      · rcases List.mem_cons.mp m with m | m
        · exact absurd (m ▸ hy) n1
        · exact List.mem_append_right _ m
    rw [e, List.length_cons, List.length_append, List.length_cons]
    rw [List.length_append] at z
    omega
def tLT2 (K : PySem.W.Frag) (ua : TE) : TE := fun σ H Q => ua σ H fun x H1 => ∃ (l : Addr) (ks : List (Addr × List Int)), x = V.ref l ∧ SqL K H1 l (ks.map fun p => V.ref p.1) ∧ (∀ p ∈ ks, SqT K H1 p.1 (p.2.map V.int)) ∧ ks.length < 64 ∧ ∀ xss : List (List Int), xss.Nodup → (∀ xs, xs ∈ xss ↔ xs ∈ ks.map (·.2)) → Q (.int xss.length) H1
section
variable {X : Cx} {a : Expr} {ua : TE} {ta : DE}
theorem pe_lt2 {p p2 q : Pos} (hc : X.calm = true) (hu : X.A.units + 64 < cLine) (hg : Gl X "len") (hm : X.mg "len" = none) (hg2 : Gl X "set") (hm2 : X.mg "set" = none) (ha : PE X a ua) (na : starEach [a] X.env = (false, eval a X.env) :: starEach [] X.env := by rfl) :
    PE X (.Call (.Name "len" p) [.Call (.Name "set" p2) [a] [] q] [] pos) (tLT2 X.K ua) := by
  constructor
  intro pins s σ H Q I h
  apply Call_ (ld_blt I hg hm PySem.boot_len ?_)
  refine PyProof.Rows.callWith_builtin1 (PyProof.Rows.args_cons ?_ rfl) rfl rfl
  apply Call_ (ld_blt I hg2 hm2 PyProof.Rows.boot_set ?_)
  refine PyProof.Rows.callWith_type1 (PyProof.Rows.args_cons (thn (ha.run pins s σ H _ I h) ?_) na) na rfl
  rintro v s1 ⟨x, H1, I1, r1, l, ks, rfl, hq, ht, few, k⟩
  cases r1
  apply PyProof.Rows.args_nil
  have ⟨its, r, pl, hz⟩ := I1.list hq
  refine call_set_tups (P := X.prog) (w := X.w) ks (I1.ok.hd hc) pl.isList (by simpa using refs_of_vals r) (fun p hp => I1.isT (ht p hp)) few (by omega) fun h' tk L es ep t R g keep => ?_
  apply PyProof.Rows.args_nil
  have I2 : Inv X pins σ H1 { s1 with heap := h', toks := tk } := I1.kept keep
  have size := SetTR.size (s := { s1 with heap := h', toks := tk }) R
  have z := k _ R.nd fun xs => by
    constructor
    · intro h
      obtain ⟨p, hp, e⟩ := List.mem_map.mp h
      exact List.mem_map.mpr ⟨p, List.mem_of_mem_take (g.sub p hp), e⟩
    · intro h
      obtain ⟨p, hp, e⟩ := List.mem_map.mp h
      rw [← e]
      exact g.all p (by rw [List.take_length]; exact hp)
  rw [List.length_map] at z
  obtain ⟨o, ho, hex, hd⟩ := R.ob
  have fits : t.fits es.size = true := SetTR.fits (s := { s1 with heap := h', toks := tk }) R
  refine call_len_set ho hex hd fits ?_ ⟨.int _, H1, I2.tok _, ⟨_, by rw [size]⟩, z⟩
  have z2 := nodup_len (ys := ks.map (·.2)) R.nd fun xs h => by
    obtain ⟨p, hp, e⟩ := List.mem_map.mp h
    exact List.mem_map.mpr ⟨p, List.mem_of_mem_take (g.sub p hp), e⟩
  rw [List.length_map, List.length_map] at z2
  rw [size]
  omega
def dLset2 (ta : DE) : DE := fun δ P => ta δ fun x => ∃ ps : List (Int × Int), x.un.items = some (ps.map pD) ∧ ps.length < 64 ∧ ∀ qs : List (Int × Int), qs.Nodup → (∀ q, q ∈ qs ↔ q ∈ ps) → P (.int (qs.length : Nat))
theorem pd_lset2 {p p2 q : Pos} (hc : X.calm = true) (hu : X.A.units + 64 < cLine) (hm : X.mg "len" = none) (hm2 : X.mg "set" = none) (ha : PEd X a ua ta) (hg : Gl X "len" := by rfl) (hg2 : Gl X "set" := by rfl) (na : starEach [a] X.env = (false, eval a X.env) :: starEach [] X.env := by rfl) :
    PEd X (.Call (.Name "len" p) [.Call (.Name "set" p2) [a] [] q] [] pos) (tLT2 X.K ua) (dLset2 ta) :=
  ⟨pe_lt2 hc hu hg hm hg2 hm2 ha.p na, fun δ P hT H0 H1 σ Q e env k => ha.s δ _ hT H0 H1 σ _ e env fun v x G0 G hx s r => by
    obtain ⟨ps, hi, few, hp⟩ := hx
    obtain ⟨p, o⟩ := r.un
    obtain ⟨l, vs, rfl, h1, h2⟩ := o.items s.e2 hi
    obtain ⟨ks, rfl, e2, h3⟩ := pairs_at ps vs h2
    have lk : ks.length = ps.length := by
      have z := congrArg List.length e2
      rwa [List.length_map, List.length_map] at z
    refine ⟨l, ks, rfl, h1, fun p hp => .of (s.e2 _ _ (h3 p hp)), by omega, fun xss nd mem => ?_⟩
    obtain ⟨qs, eq⟩ := all_two xss ps fun xs hx => by rw [← e2]; exact (mem xs).mp hx
    have z := hp qs (nodup_two.mp (by rw [← eq]; exact nd)) fun q => by
      rw [← mem_two, ← eq, mem, e2, mem_two]
    have lq : xss.length = qs.length := by rw [eq, List.length_map]
    rw [lq]
    exact (k.after s).val s.e2 z (.int _)⟩
end
/-! ### data of any sort -/
mutual
/-- plain things, lists and tuples not too long -/
def D.gd : D → Bool
  | .non => true
  | .bl _ => true
  | .int _ => true
  | .str _ => true
  | .dct _ => true
  | .lst ds => decide (ds.length ≤ 1000) && gdL ds
  | .tup ds => decide (ds.length ≤ 1000) && gdL ds
  | _ => false
def gdL : List D → Bool
  | [] => true
  | d :: ds => d.gd && gdL ds
end
theorem gdL_all : ∀ {ds : List D}, gdL ds = true → ∀ d ∈ ds, d.gd = true
  | d :: ds, h, e, he => by
    obtain ⟨h1, h2⟩ := Bool.and_eq_true_iff.mp (show (d.gd && gdL ds) = true from h)
    rcases List.mem_cons.mp he with z | z
    · rw [z]
      exact h1
    · exact gdL_all h2 e z
theorem gd_lst {ds : List D} (h : D.gd (.lst ds) = true) : ds.length ≤ 1000 ∧ ∀ d ∈ ds, d.gd = true := by
  obtain ⟨h1, h2⟩ := Bool.and_eq_true_iff.mp (show (decide (ds.length ≤ 1000) && gdL ds) = true from h)
  exact ⟨of_decide_eq_true h1, gdL_all h2⟩
theorem gd_tup {ds : List D} (h : D.gd (.tup ds) = true) : ds.length ≤ 1000 ∧ ∀ d ∈ ds, d.gd = true := by
  obtain ⟨h1, h2⟩ := Bool.and_eq_true_iff.mp (show (decide (ds.length ≤ 1000) && gdL ds) = true from h)
  exact ⟨of_decide_eq_true h1, gdL_all h2⟩
def D.isL : D → Bool
  | .lst _ => true
  | _ => false
def D.isT : D → Bool
  | .tup _ => true
  | _ => false
def D.isB : D → Bool
  | .bl _ => true
  | _ => false
def D.isI : D → Bool
  | .int _ => true
  | .bl _ => true
  | _ => false
def D.isN : D → Bool
  | .int _ => true
  | _ => false
section
variable {K : PySem.W.Frag} {d : D} {P : D → Prop}
theorem isi_L (g : d.gd = true) (h : P (.bl d.isL)) : gIsi K (.type "list") d P := by
  cases d <;> first | (cases g; done) | exact ⟨_, rfl, h⟩
theorem isi_T (g : d.gd = true) (h : P (.bl d.isT)) : gIsi K (.type "tuple") d P := by
  cases d <;> first | (cases g; done) | exact ⟨_, rfl, h⟩
theorem isi_B (g : d.gd = true) (h : P (.bl d.isB)) : gIsi K (.type "bool") d P := by
  cases d <;> first | (cases g; done) | exact ⟨_, rfl, h⟩
theorem isi_I (g : d.gd = true) (h : P (.bl d.isI)) : gIsi K (.type "int") d P := by
  cases d <;> first | (cases g; done) | exact ⟨_, rfl, h⟩
theorem gd_un (g : d.gd = true) : d.un = d := by
  cases d <;> first | rfl | cases g
theorem gd_pl (g : d.gd = true) : d.plain = true := by
  cases d <;> first | rfl | cases g
theorem gd_fzm (g : d.gd = true) : fzm d = d := by
  cases d <;> first | rfl | cases g
theorem gd_frz (g : d.gd = true) : frz d = d := by
  cases d <;> first | rfl | cases g
theorem gd_asg (g : d.gd = true) {Q : D → Prop} (h : Q d) : asgD d Q := by
  cases d <;> first | exact h | exact ⟨rfl, h⟩ | cases g
end
end J
/-! J29: readings without a context; isinstance of an error without a dict; defs by their addresses -/
namespace J
open PySem PySem.Spec PyProof.Rows L2
section
variable {K : PySem.W.Frag} {ua ub : TE} {ta tb : DE} {ur : TA} {tr : DA}
theorem snd_var {i : Nat} : SndE K (tVar i) (dVar i) := fun δ P h H0 H1 σ Q e env k => by
  unfold dVar at h
  cases q : (δ[i]?).bind DV.see with
  | none => rw [q] at h; exact h.elim
  | some d =>
    rw [q] at h
    obtain ⟨v, p, h1, h2⟩ := env.at_ i d q
    exact ⟨v, h1, k v d H0 H1 h (Step.refl e) (Res.plain h2)⟩
theorem snd_c {v : V} {d : D} (r : ∀ H, Rep K H v d) : SndE K (tC v) (dC d) := fun δ P h H0 H1 σ Q e env k => k.val e h (r H0)
theorem snd_op {r : R2} {g : D → D → (D → Prop) → Prop} (hg : OpD K r g) (a2 : SndE K ua ta) (b2 : SndE K ub tb) : SndE K (tOp r ua ub) (dOp g ta tb) := fun δ P hT H0 H1 σ Q e env k => by
  refine a2 δ _ hT H0 H1 σ _ e env fun v x G0 G hx s r1 => ?_
  refine b2 δ _ hx G0 G σ _ s.e2 (env.to s.e0 s.e1) fun w y I0 I hy s2 r2 => ?_
  obtain ⟨p, o1⟩ := (r1.to s2).un
  obtain ⟨q, o2⟩ := r2.un
  exact hg _ _ _ hy v w I0 I p q Q s2.e2 o1 o2 (k.after (s.trans s2))
theorem od_add : OpD K (fun x y H Q => rI0 (fun i j => .int (i + j)) x y H Q ∨ rCat x y H Q) gAdd := fun x y P h v w H0 H1 p q Q e o1 o2 k => by
  rcases gAdd_inv h with ⟨i, j, rfl, rfl, hp⟩ | ⟨as, bs, e1, e2, hl, hp⟩
  · exact .inl ⟨i, j, o1.int, o2.int, k.val e hp (.int _)⟩
  · obtain ⟨a1, vs, rfl, h1, r1⟩ := o1.list e e1
    obtain ⟨a2, ws, rfl, h2, r2⟩ := o2.list e e2
    exact .inr ⟨a1, a2, vs, ws, rfl, rfl, h1, h2, sz5 (by rw [r1.len, r2.len]; exact hl), k.lst e hp (r1.app r2)⟩
theorem snd_nil : SndA K tNil dNil := fun δ P h H0 H1 σ Q e env k => k [] [] H0 H1 h (Step.refl e) .nil
theorem snd_cons (a2 : SndE K ua ta) (b2 : SndA K ur tr) : SndA K (tCons ua ur) (dCons ta tr) := fun δ P hT H0 H1 σ Q e env k => by
  refine a2 δ _ hT H0 H1 σ _ e env fun v x G0 G hx s r => ?_
  refine b2 δ _ hx G0 G σ _ s.e2 (env.to s.e0 s.e1) fun vs ds I0 I hp s2 al => ?_
  exact k (v :: vs) (x.un :: ds) I0 I hp (s.trans s2) (.cons ((r.to s2).un) al)
theorem snd_lst (a2 : SndA K ur tr) : SndE K (tLst ur) (dLst tr) := fun δ P hT H0 H1 σ Q e env k => a2 δ _ hT H0 H1 σ _ e env fun vs ds G0 G hx s al => by
  have r := al.rep hx.1
  exact ⟨sz5 (by rw [r.len]; exact hx.2.1), (k.after s).lst s.e2 hx.2.2 r⟩
theorem snd_and (a2 : SndE K ua ta) (b2 : SndE K ub tb) : SndE K (tAndV ua ub) (dAnd ta tb) := fun δ P hT H0 H1 σ Q e env k => a2 δ _ hT H0 H1 σ _ e env fun v x G0 G hx s r => by
  obtain ⟨b, rfl, hp⟩ := asB_inv hx
  refine ⟨b, res_bl r, ?_⟩
  cases b with
  | true =>
    rw [if_pos rfl]
    exact b2 δ _ hp G0 G σ Q s.e2 (env.to s.e0 s.e1) (k.after s)
  | false =>
    rw [if_neg Bool.false_ne_true]
    exact (k.after s).val s.e2 hp (.bl _)
theorem snd_r1 (a2 : SndA K ur tr) : SndI K (iRng1 ur) (dIr1 tr) := fun δ P hT H0 H1 σ R e env k => a2 δ _ hT H0 H1 σ _ e env fun vs ds G0 G hx s al => by
  dsimp only at hx
  split at hx
  · obtain ⟨v, p, rfl, o⟩ := al1 al
    exact ⟨_, by rw [o.int], by omega, by omega, k _ _ G0 G hx.2.2 s walk_r⟩
  · exact hx.elim
theorem snd_yes : SndT K tYes dYes := fun δ P h H0 H1 σ Q e env k => k true H1 h (Same.refl _)
/-- isinstance of the error at a, of the class D, which has no dict -/
def dIsN (K : PySem.W.Frag) (D a : Addr) (u : Value) (ta : DE) : DE := fun δ P => ta δ fun x => x.un = .fn a ∧ ∃ b, PySem.W.kitOne K (.ref D) u = some b ∧ P (.bl b)
theorem snd_isN {D a : Addr} {c : V} {u : Value} (C : ExcC K D) (hk : ClsV c u) (a2 : SndE K ua ta) : SndE K (tCB (rIsN K a (.ref D) none) (tCons ua (tCons (tC c) tNil))) (dIsN K D a u ta) := fun δ P hT H0 H1 σ Q e env k => a2 δ _ hT H0 H1 σ _ e env fun v x G0 G hx s r => by
  obtain ⟨hf, b, hb, hp⟩ := hx
  obtain ⟨p, o⟩ := r.un
  rw [hf] at o
  exact ⟨D, rfl, rfl, C, c, u, b, by rw [o.fn], fun w rw_ => hk.eq rw_, hb, (k.after s).val s.e2 hp (.bl _)⟩
end
section
variable {P : Program} {w : World} {K : PySem.W.Frag} {mg : Str → Option Value} {base : Heap} {x : Str} {k k' n : Nat} {f : Addr}
theorem XDef.fdef {G : GX} (d : XDef P w K mg base x k n G) (hm : mg x = some (.ref f)) (h : k ≤ k') : FDef P w K mg base (L2N.CX P w) f k' (spXD K n G) := by
  obtain ⟨f', fd, ps, F, m, kp, b⟩ := d.ex
  have e : f' = f := Value.ref.inj (Option.some.inj (m.symm.trans hm))
  subst e
  exact ⟨fd, ps, F.mono h, kp, b⟩
theorem Def.fdef {G : GD} (d : Def P w K mg base x k n G) (hm : mg x = some (.ref f)) (h : k ≤ k') : FDef P w K mg base CX0 f k' (spD K n G) := by
  obtain ⟨f', fd, ps, F, m, kp, b⟩ := d.ex
  have e : f' = f := Value.ref.inj (Option.some.inj (m.symm.trans hm))
  subst e
  exact ⟨fd, ps, F.mono h, kp, b⟩
end
end J
/-! P1: what the program's small defs do -/
namespace J
open PySem PySem.Spec PyProof.Rows L2
/-- one minds the other -/
def mnd (ps : List (Int × Int)) (a b : Int) : Bool := decide (a = b) || decide (((if b < a then b else a), (if b > a then b else a)) ∈ ps)
abbrev mK (K : PySem.W.Frag) (n : Int) (ps : List (Int × Int)) : D := mD (He.ga K "Minds") n ps
def PairsOk (n : Int) (ps : List (Int × Int)) : Prop := ps.Nodup ∧ ps.length < 64 ∧ ∀ q ∈ ps, 0 ≤ q.1 ∧ q.1 < q.2 ∧ q.2 < n
/-- the kinds are kinds -/
def Kinds (n : Int) (xs : List Int) : Prop := ∀ x ∈ xs, 0 ≤ x ∧ x < n
/-- what is asked of the text: fields of Minds -/
structure MindsOk (K : PySem.W.Frag) : Prop where
  kinds : FldOk K (He.ga K "Minds") "kinds"
  kept : FldOk K (He.ga K "Minds") "kept"
  table : FldOk K (He.ga K "Minds") "table"
theorem isA_m {C : Addr} {n : Int} {ps : List (Int × Int)} {m : Str} (h : (m == "kinds") = false ∧ (m == "kept") = false ∧ (m == "table") = false) : D.isA C m (mD C n ps) := by
  refine ⟨rfl, ?_⟩
  obtain ⟨h1, h2, h3⟩ := h
  simp [List.lookup_cons, h1, h2, h3]
theorem isA_minding {C : Addr} {n : Int} {ps : List (Int × Int)} : D.isA C "minding" (mD C n ps) := ⟨rfl, by rfl⟩
theorem isA_is_kind {C : Addr} {n : Int} {ps : List (Int × Int)} : D.isA C "is_kind" (mD C n ps) := ⟨rfl, by rfl⟩
theorem fld_kinds {K : PySem.W.Frag} (M : MindsOk K) {n : Int} {ps : List (Int × Int)} {P : D → Prop} (h : P (.int n)) : gFld K "kinds" (mK K n ps) P := ⟨M.kinds, h⟩
theorem fld_table {K : PySem.W.Frag} (M : MindsOk K) {n : Int} {ps : List (Int × Int)} {P : D → Prop} (h : P (.dct ps)) : gFld K "table" (mK K n ps) P := ⟨M.table, h⟩
theorem fld_kept {K : PySem.W.Frag} (M : MindsOk K) {n : Int} {ps : List (Int × Int)} {P : D → Prop} (h : P (.lst (ps.map pD))) : gFld K "kept" (mK K n ps) P := ⟨M.kept, h⟩

abbrev newM (K : PySem.W.Frag) (n : Int) (ps : List (Int × Int)) : D := .oobj (He.ga K "Minds") [("kinds", .int n), ("kept", .olst (ps.map pD)), ("table", .dct ps)]
theorem fzm_M {K : PySem.W.Frag} {n : Int} {ps : List (Int × Int)} : fzm (.mv (newM K n ps)) = mK K n ps := rfl
def G_Minds_init (K : PySem.W.Frag) : GD := fun ds P => ∃ n ps, ds = [.int n, .lst (ps.map pD)] ∧ 1 ≤ n ∧ PairsOk n ps ∧ P (.mv (newM K n ps))
def D.isInt : D → Bool
  | .int _ => true
  | _ => false
def G_is_number (_K : PySem.W.Frag) : GD := fun ds P => ∃ i, ds = [.int i] ∧ P (.bl true)
/-! ### is_number -/
abbrev N_is_number : List Str := ["thing"]
def T_is_number (K : PySem.W.Frag) : DS := (dRet (dAnd (dIsi K (.type "int") (dVar 0)) (dNot (dIsi K (.type "bool") (dVar 0)))))
theorem rd_is_number {K : PySem.W.Frag} : ∀ ds Q, G_is_number K ds Q → T_is_number K { nx := fun _ => Q .non, rt := Q } (δof N_is_number.length ds) := by
  rintro _ Q ⟨i, rfl, h⟩
  simp only [T_is_number, dSeq, dIfS, dT, dTn, dTa, dTo, dOp, dVar, dC, dFz_eq, dCB, dCons, dNil, dCall, dCallB, dMeth, dMethB, dSet, dApp, dExt, dRet, dRetM, dNx, dDrop, dNeg, dAnd, dOr, dNot, dIf, dCh, dCh3, dU, dTup, dLst, dFld, dIsi, dIl, dIe, dIr1, dIr2, dIv1, dgN, dgT, putAll, dFor, dPar2, dPar3, dSetT, dLc, dYes, dSl, dNo, dSome, dRev, dNev, dSset, dCount, dIndex, dLrg1, dLrg2, dTwo, un_non, un_int, un_bl, un_str, un_lst, un_tup, un_obj, un_dct, un_scr, un_olst, un_oll, un_oobj, un_mv, un_m, un_p, pl_non, pl_int, pl_bl, pl_str, pl_lst, pl_tup, pl_obj, pl_dct, pl_scr, pl_m, pl_p, fzm_non, fzm_int, fzm_bl, fzm_lst, fzm_tup, fzm_obj, fzm_scr, fzm_olst, fzm_oll, fzm_oobj, fzm_m, frz_non, frz_int, frz_bl, frz_str, frz_lst, frz_tup, frz_obj, frz_dct, frz_scr, frz_olst, frz_oll, frz_m, fz_no, fz_tr, see_no, see_tr, asB_bl, asI_int, asgD_non, asgD_int, asgD_bl, asgD_lst, asgD_tup, asgD_obj, asgD_mv, asgD_m, it_lst, it_olst, it_scr, li_lst, li_olst, pit_lst, pit_scr, sz_lst, sz_olst, sz_oll, sz_scr, sz_tup, ad_int, ad_ll, ad_oo, ad_lo, ad_ol, mu_int, mu_l, mu_o, gI_int, gI0_int, gI2_int, ii_eqv, co_int, co_bl, co_non, co_row, co_rowO, co_nil, co_nilO, co_ps, co_p, co_p2, co_rows, ev_ll, ev_ol, ev_lo, ev_oo, ev_ln, ev_lno, ev_on, ev_ono, in_ps, in_row, gEq, gNe, gIn, gNotIn, g1, g2, gLen, gList, δof, List.getElem?_cons_zero, List.getElem?_cons_succ, List.getElem?_nil, List.set_cons_zero, List.set_cons_succ, List.map_cons, List.map_nil, List.length_cons, List.length_nil, List.replicate_succ, List.replicate_zero, List.cons_append, List.nil_append, Option.bind_some, Option.bind_none, List.all_cons, List.all_nil, List.append_nil, Nat.reduceAdd, Nat.reduceSub, true_and, and_true, Bool.and_true, Bool.true_and]
  refine ⟨true, rfl, ?_⟩
  simp only [dSeq, dIfS, dT, dTn, dTa, dTo, dOp, dVar, dC, dFz_eq, dCB, dCons, dNil, dCall, dCallB, dMeth, dMethB, dSet, dApp, dExt, dRet, dRetM, dNx, dDrop, dNeg, dAnd, dOr, dNot, dIf, dCh, dCh3, dU, dTup, dLst, dFld, dIsi, dIl, dIe, dIr1, dIr2, dIv1, dgN, dgT, putAll, dFor, dPar2, dPar3, dSetT, dLc, dYes, dSl, dNo, dSome, dRev, dNev, dSset, dCount, dIndex, dLrg1, dLrg2, dTwo, un_non, un_int, un_bl, un_str, un_lst, un_tup, un_obj, un_dct, un_scr, un_olst, un_oll, un_oobj, un_mv, un_m, un_p, pl_non, pl_int, pl_bl, pl_str, pl_lst, pl_tup, pl_obj, pl_dct, pl_scr, pl_m, pl_p, fzm_non, fzm_int, fzm_bl, fzm_lst, fzm_tup, fzm_obj, fzm_scr, fzm_olst, fzm_oll, fzm_oobj, fzm_m, frz_non, frz_int, frz_bl, frz_str, frz_lst, frz_tup, frz_obj, frz_dct, frz_scr, frz_olst, frz_oll, frz_m, fz_no, fz_tr, see_no, see_tr, asB_bl, asI_int, asgD_non, asgD_int, asgD_bl, asgD_lst, asgD_tup, asgD_obj, asgD_mv, asgD_m, it_lst, it_olst, it_scr, li_lst, li_olst, pit_lst, pit_scr, sz_lst, sz_olst, sz_oll, sz_scr, sz_tup, ad_int, ad_ll, ad_oo, ad_lo, ad_ol, mu_int, mu_l, mu_o, gI_int, gI0_int, gI2_int, ii_eqv, co_int, co_bl, co_non, co_row, co_rowO, co_nil, co_nilO, co_ps, co_p, co_p2, co_rows, ev_ll, ev_ol, ev_lo, ev_oo, ev_ln, ev_lno, ev_on, ev_ono, in_ps, in_row, gEq, gNe, gIn, gNotIn, g1, g2, gLen, gList, δof, List.getElem?_cons_zero, List.getElem?_cons_succ, List.getElem?_nil, List.set_cons_zero, List.set_cons_succ, List.map_cons, List.map_nil, List.length_cons, List.length_nil, List.replicate_succ, List.replicate_zero, List.cons_append, List.nil_append, Option.bind_some, Option.bind_none, List.all_cons, List.all_nil, List.append_nil, Nat.reduceAdd, Nat.reduceSub, true_and, and_true, Bool.and_true, Bool.true_and]
  exact ⟨false, rfl, h⟩
def G_is_pair (_K : PySem.W.Frag) : GD := fun ds P => ∃ (q : Int × Int) (n : Int), ds = [pD q, .int n] ∧ (0 ≤ q.1 ∧ q.1 < q.2 ∧ q.2 < n) ∧ P (.bl true)
/-! ### is_pair -/
abbrev N_is_pair : List Str := ["thing", "kinds"]
def T_is_pair (K : PySem.W.Frag) : DS := (dSeq (dIfS (dTo (dTn (dT (dIsi K (.type "tuple") (dVar 0)))) (dTo (dT (dOp gNe (dCB gLen (dCons (dVar 0) dNil)) (dC (.int 2)))) (dTo (dTn (dT (dCall (G_is_number K) (dCons (dOp gIx (dVar 0) (dC (.int 0))) dNil)))) (dTn (dT (dCall (G_is_number K) (dCons (dOp gIx (dVar 0) (dC (.int 1))) dNil))))))) (dRet (dC (.bl false))) dNx)
  (dRet (dCh3 gLe gLt gLt (dC (.int 0)) (dOp gIx (dVar 0) (dC (.int 0))) (dOp gIx (dVar 0) (dC (.int 1))) (dVar 1))))
theorem rd_is_pair {K : PySem.W.Frag} : ∀ ds Q, G_is_pair K ds Q → T_is_pair K { nx := fun _ => Q .non, rt := Q } (δof N_is_pair.length ds) := by
  rintro _ Q ⟨⟨a, b⟩, n, rfl, hq, h⟩
  simp only [T_is_pair, pD, dSeq, dIfS, dT, dTn, dTa, dTo, dOp, dVar, dC, dFz_eq, dCB, dCons, dNil, dCall, dCallB, dMeth, dMethB, dSet, dApp, dExt, dRet, dRetM, dNx, dDrop, dNeg, dAnd, dOr, dNot, dIf, dCh, dCh3, dU, dTup, dLst, dFld, dIsi, dIl, dIe, dIr1, dIr2, dIv1, dgN, dgT, putAll, dFor, dPar2, dPar3, dSetT, dLc, dYes, dSl, dNo, dSome, dRev, dNev, dSset, dCount, dIndex, dLrg1, dLrg2, dTwo, un_non, un_int, un_bl, un_str, un_lst, un_tup, un_obj, un_dct, un_scr, un_olst, un_oll, un_oobj, un_mv, un_m, un_p, pl_non, pl_int, pl_bl, pl_str, pl_lst, pl_tup, pl_obj, pl_dct, pl_scr, pl_m, pl_p, fzm_non, fzm_int, fzm_bl, fzm_lst, fzm_tup, fzm_obj, fzm_scr, fzm_olst, fzm_oll, fzm_oobj, fzm_m, frz_non, frz_int, frz_bl, frz_str, frz_lst, frz_tup, frz_obj, frz_dct, frz_scr, frz_olst, frz_oll, frz_m, fz_no, fz_tr, see_no, see_tr, asB_bl, asI_int, asgD_non, asgD_int, asgD_bl, asgD_lst, asgD_tup, asgD_obj, asgD_mv, asgD_m, it_lst, it_olst, it_scr, li_lst, li_olst, pit_lst, pit_scr, sz_lst, sz_olst, sz_oll, sz_scr, sz_tup, ad_int, ad_ll, ad_oo, ad_lo, ad_ol, mu_int, mu_l, mu_o, gI_int, gI0_int, gI2_int, ii_eqv, co_int, co_bl, co_non, co_row, co_rowO, co_nil, co_nilO, co_ps, co_p, co_p2, co_rows, ev_ll, ev_ol, ev_lo, ev_oo, ev_ln, ev_lno, ev_on, ev_ono, in_ps, in_row, gEq, gNe, gIn, gNotIn, g1, g2, gLen, gList, δof, List.getElem?_cons_zero, List.getElem?_cons_succ, List.getElem?_nil, List.set_cons_zero, List.set_cons_succ, List.map_cons, List.map_nil, List.length_cons, List.length_nil, List.replicate_succ, List.replicate_zero, List.cons_append, List.nil_append, Option.bind_some, Option.bind_none, List.all_cons, List.all_nil, List.append_nil, Nat.reduceAdd, Nat.reduceSub, true_and, and_true, Bool.and_true, Bool.true_and]
  refine ⟨true, rfl, ?_⟩
  simp only [dSeq, dIfS, dT, dTn, dTa, dTo, dOp, dVar, dC, dFz_eq, dCB, dCons, dNil, dCall, dCallB, dMeth, dMethB, dSet, dApp, dExt, dRet, dRetM, dNx, dDrop, dNeg, dAnd, dOr, dNot, dIf, dCh, dCh3, dU, dTup, dLst, dFld, dIsi, dIl, dIe, dIr1, dIr2, dIv1, dgN, dgT, putAll, dFor, dPar2, dPar3, dSetT, dLc, dYes, dSl, dNo, dSome, dRev, dNev, dSset, dCount, dIndex, dLrg1, dLrg2, dTwo, un_non, un_int, un_bl, un_str, un_lst, un_tup, un_obj, un_dct, un_scr, un_olst, un_oll, un_oobj, un_mv, un_m, un_p, pl_non, pl_int, pl_bl, pl_str, pl_lst, pl_tup, pl_obj, pl_dct, pl_scr, pl_m, pl_p, fzm_non, fzm_int, fzm_bl, fzm_lst, fzm_tup, fzm_obj, fzm_scr, fzm_olst, fzm_oll, fzm_oobj, fzm_m, frz_non, frz_int, frz_bl, frz_str, frz_lst, frz_tup, frz_obj, frz_dct, frz_scr, frz_olst, frz_oll, frz_m, fz_no, fz_tr, see_no, see_tr, asB_bl, asI_int, asgD_non, asgD_int, asgD_bl, asgD_lst, asgD_tup, asgD_obj, asgD_mv, asgD_m, it_lst, it_olst, it_scr, li_lst, li_olst, pit_lst, pit_scr, sz_lst, sz_olst, sz_oll, sz_scr, sz_tup, ad_int, ad_ll, ad_oo, ad_lo, ad_ol, mu_int, mu_l, mu_o, gI_int, gI0_int, gI2_int, ii_eqv, co_int, co_bl, co_non, co_row, co_rowO, co_nil, co_nilO, co_ps, co_p, co_p2, co_rows, ev_ll, ev_ol, ev_lo, ev_oo, ev_ln, ev_lno, ev_on, ev_ono, in_ps, in_row, gEq, gNe, gIn, gNotIn, g1, g2, gLen, gList, δof, List.getElem?_cons_zero, List.getElem?_cons_succ, List.getElem?_nil, List.set_cons_zero, List.set_cons_succ, List.map_cons, List.map_nil, List.length_cons, List.length_nil, List.replicate_succ, List.replicate_zero, List.cons_append, List.nil_append, Option.bind_some, Option.bind_none, List.all_cons, List.all_nil, List.append_nil, Nat.reduceAdd, Nat.reduceSub, true_and, and_true, Bool.and_true, Bool.true_and]
  refine ix_tup ⟨_, at_zero, ?_⟩
  simp only [dSeq, dIfS, dT, dTn, dTa, dTo, dOp, dVar, dC, dFz_eq, dCB, dCons, dNil, dCall, dCallB, dMeth, dMethB, dSet, dApp, dExt, dRet, dRetM, dNx, dDrop, dNeg, dAnd, dOr, dNot, dIf, dCh, dCh3, dU, dTup, dLst, dFld, dIsi, dIl, dIe, dIr1, dIr2, dIv1, dgN, dgT, putAll, dFor, dPar2, dPar3, dSetT, dLc, dYes, dSl, dNo, dSome, dRev, dNev, dSset, dCount, dIndex, dLrg1, dLrg2, dTwo, un_non, un_int, un_bl, un_str, un_lst, un_tup, un_obj, un_dct, un_scr, un_olst, un_oll, un_oobj, un_mv, un_m, un_p, pl_non, pl_int, pl_bl, pl_str, pl_lst, pl_tup, pl_obj, pl_dct, pl_scr, pl_m, pl_p, fzm_non, fzm_int, fzm_bl, fzm_lst, fzm_tup, fzm_obj, fzm_scr, fzm_olst, fzm_oll, fzm_oobj, fzm_m, frz_non, frz_int, frz_bl, frz_str, frz_lst, frz_tup, frz_obj, frz_dct, frz_scr, frz_olst, frz_oll, frz_m, fz_no, fz_tr, see_no, see_tr, asB_bl, asI_int, asgD_non, asgD_int, asgD_bl, asgD_lst, asgD_tup, asgD_obj, asgD_mv, asgD_m, it_lst, it_olst, it_scr, li_lst, li_olst, pit_lst, pit_scr, sz_lst, sz_olst, sz_oll, sz_scr, sz_tup, ad_int, ad_ll, ad_oo, ad_lo, ad_ol, mu_int, mu_l, mu_o, gI_int, gI0_int, gI2_int, ii_eqv, co_int, co_bl, co_non, co_row, co_rowO, co_nil, co_nilO, co_ps, co_p, co_p2, co_rows, ev_ll, ev_ol, ev_lo, ev_oo, ev_ln, ev_lno, ev_on, ev_ono, in_ps, in_row, gEq, gNe, gIn, gNotIn, g1, g2, gLen, gList, δof, List.getElem?_cons_zero, List.getElem?_cons_succ, List.getElem?_nil, List.set_cons_zero, List.set_cons_succ, List.map_cons, List.map_nil, List.length_cons, List.length_nil, List.replicate_succ, List.replicate_zero, List.cons_append, List.nil_append, Option.bind_some, Option.bind_none, List.all_cons, List.all_nil, List.append_nil, Nat.reduceAdd, Nat.reduceSub, true_and, and_true, Bool.and_true, Bool.true_and]
  refine ⟨a, rfl, ?_⟩
  simp only [dSeq, dIfS, dT, dTn, dTa, dTo, dOp, dVar, dC, dFz_eq, dCB, dCons, dNil, dCall, dCallB, dMeth, dMethB, dSet, dApp, dExt, dRet, dRetM, dNx, dDrop, dNeg, dAnd, dOr, dNot, dIf, dCh, dCh3, dU, dTup, dLst, dFld, dIsi, dIl, dIe, dIr1, dIr2, dIv1, dgN, dgT, putAll, dFor, dPar2, dPar3, dSetT, dLc, dYes, dSl, dNo, dSome, dRev, dNev, dSset, dCount, dIndex, dLrg1, dLrg2, dTwo, un_non, un_int, un_bl, un_str, un_lst, un_tup, un_obj, un_dct, un_scr, un_olst, un_oll, un_oobj, un_mv, un_m, un_p, pl_non, pl_int, pl_bl, pl_str, pl_lst, pl_tup, pl_obj, pl_dct, pl_scr, pl_m, pl_p, fzm_non, fzm_int, fzm_bl, fzm_lst, fzm_tup, fzm_obj, fzm_scr, fzm_olst, fzm_oll, fzm_oobj, fzm_m, frz_non, frz_int, frz_bl, frz_str, frz_lst, frz_tup, frz_obj, frz_dct, frz_scr, frz_olst, frz_oll, frz_m, fz_no, fz_tr, see_no, see_tr, asB_bl, asI_int, asgD_non, asgD_int, asgD_bl, asgD_lst, asgD_tup, asgD_obj, asgD_mv, asgD_m, it_lst, it_olst, it_scr, li_lst, li_olst, pit_lst, pit_scr, sz_lst, sz_olst, sz_oll, sz_scr, sz_tup, ad_int, ad_ll, ad_oo, ad_lo, ad_ol, mu_int, mu_l, mu_o, gI_int, gI0_int, gI2_int, ii_eqv, co_int, co_bl, co_non, co_row, co_rowO, co_nil, co_nilO, co_ps, co_p, co_p2, co_rows, ev_ll, ev_ol, ev_lo, ev_oo, ev_ln, ev_lno, ev_on, ev_ono, in_ps, in_row, gEq, gNe, gIn, gNotIn, g1, g2, gLen, gList, δof, List.getElem?_cons_zero, List.getElem?_cons_succ, List.getElem?_nil, List.set_cons_zero, List.set_cons_succ, List.map_cons, List.map_nil, List.length_cons, List.length_nil, List.replicate_succ, List.replicate_zero, List.cons_append, List.nil_append, Option.bind_some, Option.bind_none, List.all_cons, List.all_nil, List.append_nil, Nat.reduceAdd, Nat.reduceSub, true_and, and_true, Bool.and_true, Bool.true_and]
  refine ix_tup ⟨_, at_nat (i := 1) rfl, ?_⟩
  simp only [dSeq, dIfS, dT, dTn, dTa, dTo, dOp, dVar, dC, dFz_eq, dCB, dCons, dNil, dCall, dCallB, dMeth, dMethB, dSet, dApp, dExt, dRet, dRetM, dNx, dDrop, dNeg, dAnd, dOr, dNot, dIf, dCh, dCh3, dU, dTup, dLst, dFld, dIsi, dIl, dIe, dIr1, dIr2, dIv1, dgN, dgT, putAll, dFor, dPar2, dPar3, dSetT, dLc, dYes, dSl, dNo, dSome, dRev, dNev, dSset, dCount, dIndex, dLrg1, dLrg2, dTwo, un_non, un_int, un_bl, un_str, un_lst, un_tup, un_obj, un_dct, un_scr, un_olst, un_oll, un_oobj, un_mv, un_m, un_p, pl_non, pl_int, pl_bl, pl_str, pl_lst, pl_tup, pl_obj, pl_dct, pl_scr, pl_m, pl_p, fzm_non, fzm_int, fzm_bl, fzm_lst, fzm_tup, fzm_obj, fzm_scr, fzm_olst, fzm_oll, fzm_oobj, fzm_m, frz_non, frz_int, frz_bl, frz_str, frz_lst, frz_tup, frz_obj, frz_dct, frz_scr, frz_olst, frz_oll, frz_m, fz_no, fz_tr, see_no, see_tr, asB_bl, asI_int, asgD_non, asgD_int, asgD_bl, asgD_lst, asgD_tup, asgD_obj, asgD_mv, asgD_m, it_lst, it_olst, it_scr, li_lst, li_olst, pit_lst, pit_scr, sz_lst, sz_olst, sz_oll, sz_scr, sz_tup, ad_int, ad_ll, ad_oo, ad_lo, ad_ol, mu_int, mu_l, mu_o, gI_int, gI0_int, gI2_int, ii_eqv, co_int, co_bl, co_non, co_row, co_rowO, co_nil, co_nilO, co_ps, co_p, co_p2, co_rows, ev_ll, ev_ol, ev_lo, ev_oo, ev_ln, ev_lno, ev_on, ev_ono, in_ps, in_row, gEq, gNe, gIn, gNotIn, g1, g2, gLen, gList, δof, List.getElem?_cons_zero, List.getElem?_cons_succ, List.getElem?_nil, List.set_cons_zero, List.set_cons_succ, List.map_cons, List.map_nil, List.length_cons, List.length_nil, List.replicate_succ, List.replicate_zero, List.cons_append, List.nil_append, Option.bind_some, Option.bind_none, List.all_cons, List.all_nil, List.append_nil, Nat.reduceAdd, Nat.reduceSub, true_and, and_true, Bool.and_true, Bool.true_and]
  refine ⟨b, rfl, ?_⟩
  simp only [dSeq, dIfS, dT, dTn, dTa, dTo, dOp, dVar, dC, dFz_eq, dCB, dCons, dNil, dCall, dCallB, dMeth, dMethB, dSet, dApp, dExt, dRet, dRetM, dNx, dDrop, dNeg, dAnd, dOr, dNot, dIf, dCh, dCh3, dU, dTup, dLst, dFld, dIsi, dIl, dIe, dIr1, dIr2, dIv1, dgN, dgT, putAll, dFor, dPar2, dPar3, dSetT, dLc, dYes, dSl, dNo, dSome, dRev, dNev, dSset, dCount, dIndex, dLrg1, dLrg2, dTwo, un_non, un_int, un_bl, un_str, un_lst, un_tup, un_obj, un_dct, un_scr, un_olst, un_oll, un_oobj, un_mv, un_m, un_p, pl_non, pl_int, pl_bl, pl_str, pl_lst, pl_tup, pl_obj, pl_dct, pl_scr, pl_m, pl_p, fzm_non, fzm_int, fzm_bl, fzm_lst, fzm_tup, fzm_obj, fzm_scr, fzm_olst, fzm_oll, fzm_oobj, fzm_m, frz_non, frz_int, frz_bl, frz_str, frz_lst, frz_tup, frz_obj, frz_dct, frz_scr, frz_olst, frz_oll, frz_m, fz_no, fz_tr, see_no, see_tr, asB_bl, asI_int, asgD_non, asgD_int, asgD_bl, asgD_lst, asgD_tup, asgD_obj, asgD_mv, asgD_m, it_lst, it_olst, it_scr, li_lst, li_olst, pit_lst, pit_scr, sz_lst, sz_olst, sz_oll, sz_scr, sz_tup, ad_int, ad_ll, ad_oo, ad_lo, ad_ol, mu_int, mu_l, mu_o, gI_int, gI0_int, gI2_int, ii_eqv, co_int, co_bl, co_non, co_row, co_rowO, co_nil, co_nilO, co_ps, co_p, co_p2, co_rows, ev_ll, ev_ol, ev_lo, ev_oo, ev_ln, ev_lno, ev_on, ev_ono, in_ps, in_row, gEq, gNe, gIn, gNotIn, g1, g2, gLen, gList, δof, List.getElem?_cons_zero, List.getElem?_cons_succ, List.getElem?_nil, List.set_cons_zero, List.set_cons_succ, List.map_cons, List.map_nil, List.length_cons, List.length_nil, List.replicate_succ, List.replicate_zero, List.cons_append, List.nil_append, Option.bind_some, Option.bind_none, List.all_cons, List.all_nil, List.append_nil, Nat.reduceAdd, Nat.reduceSub, true_and, and_true, Bool.and_true, Bool.true_and]
  refine ix_tup ⟨_, at_zero, ?_⟩
  simp only [dSeq, dIfS, dT, dTn, dTa, dTo, dOp, dVar, dC, dFz_eq, dCB, dCons, dNil, dCall, dCallB, dMeth, dMethB, dSet, dApp, dExt, dRet, dRetM, dNx, dDrop, dNeg, dAnd, dOr, dNot, dIf, dCh, dCh3, dU, dTup, dLst, dFld, dIsi, dIl, dIe, dIr1, dIr2, dIv1, dgN, dgT, putAll, dFor, dPar2, dPar3, dSetT, dLc, dYes, dSl, dNo, dSome, dRev, dNev, dSset, dCount, dIndex, dLrg1, dLrg2, dTwo, un_non, un_int, un_bl, un_str, un_lst, un_tup, un_obj, un_dct, un_scr, un_olst, un_oll, un_oobj, un_mv, un_m, un_p, pl_non, pl_int, pl_bl, pl_str, pl_lst, pl_tup, pl_obj, pl_dct, pl_scr, pl_m, pl_p, fzm_non, fzm_int, fzm_bl, fzm_lst, fzm_tup, fzm_obj, fzm_scr, fzm_olst, fzm_oll, fzm_oobj, fzm_m, frz_non, frz_int, frz_bl, frz_str, frz_lst, frz_tup, frz_obj, frz_dct, frz_scr, frz_olst, frz_oll, frz_m, fz_no, fz_tr, see_no, see_tr, asB_bl, asI_int, asgD_non, asgD_int, asgD_bl, asgD_lst, asgD_tup, asgD_obj, asgD_mv, asgD_m, it_lst, it_olst, it_scr, li_lst, li_olst, pit_lst, pit_scr, sz_lst, sz_olst, sz_oll, sz_scr, sz_tup, ad_int, ad_ll, ad_oo, ad_lo, ad_ol, mu_int, mu_l, mu_o, gI_int, gI0_int, gI2_int, ii_eqv, co_int, co_bl, co_non, co_row, co_rowO, co_nil, co_nilO, co_ps, co_p, co_p2, co_rows, ev_ll, ev_ol, ev_lo, ev_oo, ev_ln, ev_lno, ev_on, ev_ono, in_ps, in_row, gEq, gNe, gIn, gNotIn, g1, g2, gLen, gList, δof, List.getElem?_cons_zero, List.getElem?_cons_succ, List.getElem?_nil, List.set_cons_zero, List.set_cons_succ, List.map_cons, List.map_nil, List.length_cons, List.length_nil, List.replicate_succ, List.replicate_zero, List.cons_append, List.nil_append, Option.bind_some, Option.bind_none, List.all_cons, List.all_nil, List.append_nil, Nat.reduceAdd, Nat.reduceSub, true_and, and_true, Bool.and_true, Bool.true_and, decide_eq_true hq.1]
  refine ix_tup ⟨_, at_nat (i := 1) rfl, ?_⟩
  simp only [dSeq, dIfS, dT, dTn, dTa, dTo, dOp, dVar, dC, dFz_eq, dCB, dCons, dNil, dCall, dCallB, dMeth, dMethB, dSet, dApp, dExt, dRet, dRetM, dNx, dDrop, dNeg, dAnd, dOr, dNot, dIf, dCh, dCh3, dU, dTup, dLst, dFld, dIsi, dIl, dIe, dIr1, dIr2, dIv1, dgN, dgT, putAll, dFor, dPar2, dPar3, dSetT, dLc, dYes, dSl, dNo, dSome, dRev, dNev, dSset, dCount, dIndex, dLrg1, dLrg2, dTwo, un_non, un_int, un_bl, un_str, un_lst, un_tup, un_obj, un_dct, un_scr, un_olst, un_oll, un_oobj, un_mv, un_m, un_p, pl_non, pl_int, pl_bl, pl_str, pl_lst, pl_tup, pl_obj, pl_dct, pl_scr, pl_m, pl_p, fzm_non, fzm_int, fzm_bl, fzm_lst, fzm_tup, fzm_obj, fzm_scr, fzm_olst, fzm_oll, fzm_oobj, fzm_m, frz_non, frz_int, frz_bl, frz_str, frz_lst, frz_tup, frz_obj, frz_dct, frz_scr, frz_olst, frz_oll, frz_m, fz_no, fz_tr, see_no, see_tr, asB_bl, asI_int, asgD_non, asgD_int, asgD_bl, asgD_lst, asgD_tup, asgD_obj, asgD_mv, asgD_m, it_lst, it_olst, it_scr, li_lst, li_olst, pit_lst, pit_scr, sz_lst, sz_olst, sz_oll, sz_scr, sz_tup, ad_int, ad_ll, ad_oo, ad_lo, ad_ol, mu_int, mu_l, mu_o, gI_int, gI0_int, gI2_int, ii_eqv, co_int, co_bl, co_non, co_row, co_rowO, co_nil, co_nilO, co_ps, co_p, co_p2, co_rows, ev_ll, ev_ol, ev_lo, ev_oo, ev_ln, ev_lno, ev_on, ev_ono, in_ps, in_row, gEq, gNe, gIn, gNotIn, g1, g2, gLen, gList, δof, List.getElem?_cons_zero, List.getElem?_cons_succ, List.getElem?_nil, List.set_cons_zero, List.set_cons_succ, List.map_cons, List.map_nil, List.length_cons, List.length_nil, List.replicate_succ, List.replicate_zero, List.cons_append, List.nil_append, Option.bind_some, Option.bind_none, List.all_cons, List.all_nil, List.append_nil, Nat.reduceAdd, Nat.reduceSub, true_and, and_true, Bool.and_true, Bool.true_and, decide_eq_true hq.2.1, decide_eq_true hq.2.2]
  exact h
def G_Minds_pairs (K : PySem.W.Frag) : GD := fun ds P => ∃ n ps, ds = [mK K n ps] ∧ P (.mv (.olst (ps.map pD)))
def G_Minds_minding (K : PySem.W.Frag) : GD := fun ds P => ∃ n ps a b, ds = [mK K n ps, .int a, .int b] ∧ P (.bl (mnd ps a b))
/-! ### Minds.minding -/
abbrev N_Minds_minding : List Str := ["self", "one", "other"]
def T_Minds_minding (K : PySem.W.Frag) : DS := (dRet (dOr (dOp gEq (dVar 1) (dVar 2)) (dOp gInD (dTup (dCons (dFz (dCB (gI2 fun i j => if j < i then j else i) (dCons (dVar 1) (dCons (dVar 2) dNil)))) (dCons (dFz (dCB (gI2 fun i j => if j > i then j else i) (dCons (dVar 1) (dCons (dVar 2) dNil)))) dNil))) (dFld K "table" (dVar 0)))))
theorem rd_Minds_minding {K : PySem.W.Frag} (M : MindsOk K) : ∀ ds Q, G_Minds_minding K ds Q → T_Minds_minding K { nx := fun _ => Q .non, rt := Q } (δof N_Minds_minding.length ds) := by
  rintro _ Q ⟨n, ps, a, b, rfl, h⟩
  simp only [T_Minds_minding, mK, dSeq, dIfS, dT, dTn, dTa, dTo, dOp, dVar, dC, dFz_eq, dCB, dCons, dNil, dCall, dCallB, dMeth, dMethB, dSet, dApp, dExt, dRet, dRetM, dNx, dDrop, dNeg, dAnd, dOr, dNot, dIf, dCh, dCh3, dU, dTup, dLst, dFld, dIsi, dIl, dIe, dIr1, dIr2, dIv1, dgN, dgT, putAll, dFor, dPar2, dPar3, dSetT, dLc, dYes, dSl, dNo, dSome, dRev, dNev, dSset, dCount, dIndex, dLrg1, dLrg2, dTwo, un_non, un_int, un_bl, un_str, un_lst, un_tup, un_obj, un_dct, un_scr, un_olst, un_oll, un_oobj, un_mv, un_m, un_p, pl_non, pl_int, pl_bl, pl_str, pl_lst, pl_tup, pl_obj, pl_dct, pl_scr, pl_m, pl_p, fzm_non, fzm_int, fzm_bl, fzm_lst, fzm_tup, fzm_obj, fzm_scr, fzm_olst, fzm_oll, fzm_oobj, fzm_m, frz_non, frz_int, frz_bl, frz_str, frz_lst, frz_tup, frz_obj, frz_dct, frz_scr, frz_olst, frz_oll, frz_m, fz_no, fz_tr, see_no, see_tr, asB_bl, asI_int, asgD_non, asgD_int, asgD_bl, asgD_lst, asgD_tup, asgD_obj, asgD_mv, asgD_m, it_lst, it_olst, it_scr, li_lst, li_olst, pit_lst, pit_scr, sz_lst, sz_olst, sz_oll, sz_scr, sz_tup, ad_int, ad_ll, ad_oo, ad_lo, ad_ol, mu_int, mu_l, mu_o, gI_int, gI0_int, gI2_int, ii_eqv, co_int, co_bl, co_non, co_row, co_rowO, co_nil, co_nilO, co_ps, co_p, co_p2, co_rows, ev_ll, ev_ol, ev_lo, ev_oo, ev_ln, ev_lno, ev_on, ev_ono, in_ps, in_row, gEq, gNe, gIn, gNotIn, g1, g2, gLen, gList, δof, List.getElem?_cons_zero, List.getElem?_cons_succ, List.getElem?_nil, List.set_cons_zero, List.set_cons_succ, List.map_cons, List.map_nil, List.length_cons, List.length_nil, List.replicate_succ, List.replicate_zero, List.cons_append, List.nil_append, Option.bind_some, Option.bind_none, List.all_cons, List.all_nil, List.append_nil, Nat.reduceAdd, Nat.reduceSub, true_and, and_true, Bool.and_true, Bool.true_and]
  by_cases e : a = b
  · subst e
    have z : mnd ps a a = true := by simp [mnd]
    rw [z] at h
    simp only [decide_true]
    exact h
  · simp only [decide_eq_false e, dSeq, dIfS, dT, dTn, dTa, dTo, dOp, dVar, dC, dFz_eq, dCB, dCons, dNil, dCall, dCallB, dMeth, dMethB, dSet, dApp, dExt, dRet, dRetM, dNx, dDrop, dNeg, dAnd, dOr, dNot, dIf, dCh, dCh3, dU, dTup, dLst, dFld, dIsi, dIl, dIe, dIr1, dIr2, dIv1, dgN, dgT, putAll, dFor, dPar2, dPar3, dSetT, dLc, dYes, dSl, dNo, dSome, dRev, dNev, dSset, dCount, dIndex, dLrg1, dLrg2, dTwo, un_non, un_int, un_bl, un_str, un_lst, un_tup, un_obj, un_dct, un_scr, un_olst, un_oll, un_oobj, un_mv, un_m, un_p, pl_non, pl_int, pl_bl, pl_str, pl_lst, pl_tup, pl_obj, pl_dct, pl_scr, pl_m, pl_p, fzm_non, fzm_int, fzm_bl, fzm_lst, fzm_tup, fzm_obj, fzm_scr, fzm_olst, fzm_oll, fzm_oobj, fzm_m, frz_non, frz_int, frz_bl, frz_str, frz_lst, frz_tup, frz_obj, frz_dct, frz_scr, frz_olst, frz_oll, frz_m, fz_no, fz_tr, see_no, see_tr, asB_bl, asI_int, asgD_non, asgD_int, asgD_bl, asgD_lst, asgD_tup, asgD_obj, asgD_mv, asgD_m, it_lst, it_olst, it_scr, li_lst, li_olst, pit_lst, pit_scr, sz_lst, sz_olst, sz_oll, sz_scr, sz_tup, ad_int, ad_ll, ad_oo, ad_lo, ad_ol, mu_int, mu_l, mu_o, gI_int, gI0_int, gI2_int, ii_eqv, co_int, co_bl, co_non, co_row, co_rowO, co_nil, co_nilO, co_ps, co_p, co_p2, co_rows, ev_ll, ev_ol, ev_lo, ev_oo, ev_ln, ev_lno, ev_on, ev_ono, in_ps, in_row, gEq, gNe, gIn, gNotIn, g1, g2, gLen, gList, δof, List.getElem?_cons_zero, List.getElem?_cons_succ, List.getElem?_nil, List.set_cons_zero, List.set_cons_succ, List.map_cons, List.map_nil, List.length_cons, List.length_nil, List.replicate_succ, List.replicate_zero, List.cons_append, List.nil_append, Option.bind_some, Option.bind_none, List.all_cons, List.all_nil, List.append_nil, Nat.reduceAdd, Nat.reduceSub, true_and, and_true, Bool.and_true, Bool.true_and]
    refine ⟨by decide, fld_table M ?_⟩
    have z : mnd ps a b = decide (((if b < a then b else a), (if b > a then b else a)) ∈ ps) := by simp [mnd, e]
    rw [z] at h
    exact h
def G_Minds_is_kind (K : PySem.W.Frag) : GD := fun ds P => ∃ n ps a, ds = [mK K n ps, .int a] ∧ P (.bl (decide (0 ≤ a ∧ a < n)))
/-! ### Minds.is_kind -/
abbrev N_Minds_is_kind : List Str := ["self", "thing"]
def T_Minds_is_kind (K : PySem.W.Frag) : DS := (dRet (dAnd (dCall (G_is_number K) (dCons (dVar 1) dNil)) (dCh gLe gLt (dC (.int 0)) (dVar 1) (dFld K "kinds" (dVar 0)))))
theorem rd_Minds_is_kind {K : PySem.W.Frag} (M : MindsOk K) : ∀ ds Q, G_Minds_is_kind K ds Q → T_Minds_is_kind K { nx := fun _ => Q .non, rt := Q } (δof N_Minds_is_kind.length ds) := by
  rintro _ Q ⟨n, ps, a, rfl, h⟩
  simp only [T_Minds_is_kind, mK, dSeq, dIfS, dT, dTn, dTa, dTo, dOp, dVar, dC, dFz_eq, dCB, dCons, dNil, dCall, dCallB, dMeth, dMethB, dSet, dApp, dExt, dRet, dRetM, dNx, dDrop, dNeg, dAnd, dOr, dNot, dIf, dCh, dCh3, dU, dTup, dLst, dFld, dIsi, dIl, dIe, dIr1, dIr2, dIv1, dgN, dgT, putAll, dFor, dPar2, dPar3, dSetT, dLc, dYes, dSl, dNo, dSome, dRev, dNev, dSset, dCount, dIndex, dLrg1, dLrg2, dTwo, un_non, un_int, un_bl, un_str, un_lst, un_tup, un_obj, un_dct, un_scr, un_olst, un_oll, un_oobj, un_mv, un_m, un_p, pl_non, pl_int, pl_bl, pl_str, pl_lst, pl_tup, pl_obj, pl_dct, pl_scr, pl_m, pl_p, fzm_non, fzm_int, fzm_bl, fzm_lst, fzm_tup, fzm_obj, fzm_scr, fzm_olst, fzm_oll, fzm_oobj, fzm_m, frz_non, frz_int, frz_bl, frz_str, frz_lst, frz_tup, frz_obj, frz_dct, frz_scr, frz_olst, frz_oll, frz_m, fz_no, fz_tr, see_no, see_tr, asB_bl, asI_int, asgD_non, asgD_int, asgD_bl, asgD_lst, asgD_tup, asgD_obj, asgD_mv, asgD_m, it_lst, it_olst, it_scr, li_lst, li_olst, pit_lst, pit_scr, sz_lst, sz_olst, sz_oll, sz_scr, sz_tup, ad_int, ad_ll, ad_oo, ad_lo, ad_ol, mu_int, mu_l, mu_o, gI_int, gI0_int, gI2_int, ii_eqv, co_int, co_bl, co_non, co_row, co_rowO, co_nil, co_nilO, co_ps, co_p, co_p2, co_rows, ev_ll, ev_ol, ev_lo, ev_oo, ev_ln, ev_lno, ev_on, ev_ono, in_ps, in_row, gEq, gNe, gIn, gNotIn, g1, g2, gLen, gList, δof, List.getElem?_cons_zero, List.getElem?_cons_succ, List.getElem?_nil, List.set_cons_zero, List.set_cons_succ, List.map_cons, List.map_nil, List.length_cons, List.length_nil, List.replicate_succ, List.replicate_zero, List.cons_append, List.nil_append, Option.bind_some, Option.bind_none, List.all_cons, List.all_nil, List.append_nil, Nat.reduceAdd, Nat.reduceSub, true_and, and_true, Bool.and_true, Bool.true_and]
  refine ⟨a, rfl, ?_⟩
  by_cases e : 0 ≤ a
  · simp only [decide_eq_true e, dSeq, dIfS, dT, dTn, dTa, dTo, dOp, dVar, dC, dFz_eq, dCB, dCons, dNil, dCall, dCallB, dMeth, dMethB, dSet, dApp, dExt, dRet, dRetM, dNx, dDrop, dNeg, dAnd, dOr, dNot, dIf, dCh, dCh3, dU, dTup, dLst, dFld, dIsi, dIl, dIe, dIr1, dIr2, dIv1, dgN, dgT, putAll, dFor, dPar2, dPar3, dSetT, dLc, dYes, dSl, dNo, dSome, dRev, dNev, dSset, dCount, dIndex, dLrg1, dLrg2, dTwo, un_non, un_int, un_bl, un_str, un_lst, un_tup, un_obj, un_dct, un_scr, un_olst, un_oll, un_oobj, un_mv, un_m, un_p, pl_non, pl_int, pl_bl, pl_str, pl_lst, pl_tup, pl_obj, pl_dct, pl_scr, pl_m, pl_p, fzm_non, fzm_int, fzm_bl, fzm_lst, fzm_tup, fzm_obj, fzm_scr, fzm_olst, fzm_oll, fzm_oobj, fzm_m, frz_non, frz_int, frz_bl, frz_str, frz_lst, frz_tup, frz_obj, frz_dct, frz_scr, frz_olst, frz_oll, frz_m, fz_no, fz_tr, see_no, see_tr, asB_bl, asI_int, asgD_non, asgD_int, asgD_bl, asgD_lst, asgD_tup, asgD_obj, asgD_mv, asgD_m, it_lst, it_olst, it_scr, li_lst, li_olst, pit_lst, pit_scr, sz_lst, sz_olst, sz_oll, sz_scr, sz_tup, ad_int, ad_ll, ad_oo, ad_lo, ad_ol, mu_int, mu_l, mu_o, gI_int, gI0_int, gI2_int, ii_eqv, co_int, co_bl, co_non, co_row, co_rowO, co_nil, co_nilO, co_ps, co_p, co_p2, co_rows, ev_ll, ev_ol, ev_lo, ev_oo, ev_ln, ev_lno, ev_on, ev_ono, in_ps, in_row, gEq, gNe, gIn, gNotIn, g1, g2, gLen, gList, δof, List.getElem?_cons_zero, List.getElem?_cons_succ, List.getElem?_nil, List.set_cons_zero, List.set_cons_succ, List.map_cons, List.map_nil, List.length_cons, List.length_nil, List.replicate_succ, List.replicate_zero, List.cons_append, List.nil_append, Option.bind_some, Option.bind_none, List.all_cons, List.all_nil, List.append_nil, Nat.reduceAdd, Nat.reduceSub, true_and, and_true, Bool.and_true, Bool.true_and]
    refine fld_kinds M ?_
    simp only [dSeq, dIfS, dT, dTn, dTa, dTo, dOp, dVar, dC, dFz_eq, dCB, dCons, dNil, dCall, dCallB, dMeth, dMethB, dSet, dApp, dExt, dRet, dRetM, dNx, dDrop, dNeg, dAnd, dOr, dNot, dIf, dCh, dCh3, dU, dTup, dLst, dFld, dIsi, dIl, dIe, dIr1, dIr2, dIv1, dgN, dgT, putAll, dFor, dPar2, dPar3, dSetT, dLc, dYes, dSl, dNo, dSome, dRev, dNev, dSset, dCount, dIndex, dLrg1, dLrg2, dTwo, un_non, un_int, un_bl, un_str, un_lst, un_tup, un_obj, un_dct, un_scr, un_olst, un_oll, un_oobj, un_mv, un_m, un_p, pl_non, pl_int, pl_bl, pl_str, pl_lst, pl_tup, pl_obj, pl_dct, pl_scr, pl_m, pl_p, fzm_non, fzm_int, fzm_bl, fzm_lst, fzm_tup, fzm_obj, fzm_scr, fzm_olst, fzm_oll, fzm_oobj, fzm_m, frz_non, frz_int, frz_bl, frz_str, frz_lst, frz_tup, frz_obj, frz_dct, frz_scr, frz_olst, frz_oll, frz_m, fz_no, fz_tr, see_no, see_tr, asB_bl, asI_int, asgD_non, asgD_int, asgD_bl, asgD_lst, asgD_tup, asgD_obj, asgD_mv, asgD_m, it_lst, it_olst, it_scr, li_lst, li_olst, pit_lst, pit_scr, sz_lst, sz_olst, sz_oll, sz_scr, sz_tup, ad_int, ad_ll, ad_oo, ad_lo, ad_ol, mu_int, mu_l, mu_o, gI_int, gI0_int, gI2_int, ii_eqv, co_int, co_bl, co_non, co_row, co_rowO, co_nil, co_nilO, co_ps, co_p, co_p2, co_rows, ev_ll, ev_ol, ev_lo, ev_oo, ev_ln, ev_lno, ev_on, ev_ono, in_ps, in_row, gEq, gNe, gIn, gNotIn, g1, g2, gLen, gList, δof, List.getElem?_cons_zero, List.getElem?_cons_succ, List.getElem?_nil, List.set_cons_zero, List.set_cons_succ, List.map_cons, List.map_nil, List.length_cons, List.length_nil, List.replicate_succ, List.replicate_zero, List.cons_append, List.nil_append, Option.bind_some, Option.bind_none, List.all_cons, List.all_nil, List.append_nil, Nat.reduceAdd, Nat.reduceSub, true_and, and_true, Bool.and_true, Bool.true_and]
    by_cases e2 : a < n
    · simpa [e, e2] using h
    · simpa [e, e2] using h
  · simp only [decide_eq_false e, dSeq, dIfS, dT, dTn, dTa, dTo, dOp, dVar, dC, dFz_eq, dCB, dCons, dNil, dCall, dCallB, dMeth, dMethB, dSet, dApp, dExt, dRet, dRetM, dNx, dDrop, dNeg, dAnd, dOr, dNot, dIf, dCh, dCh3, dU, dTup, dLst, dFld, dIsi, dIl, dIe, dIr1, dIr2, dIv1, dgN, dgT, putAll, dFor, dPar2, dPar3, dSetT, dLc, dYes, dSl, dNo, dSome, dRev, dNev, dSset, dCount, dIndex, dLrg1, dLrg2, dTwo, un_non, un_int, un_bl, un_str, un_lst, un_tup, un_obj, un_dct, un_scr, un_olst, un_oll, un_oobj, un_mv, un_m, un_p, pl_non, pl_int, pl_bl, pl_str, pl_lst, pl_tup, pl_obj, pl_dct, pl_scr, pl_m, pl_p, fzm_non, fzm_int, fzm_bl, fzm_lst, fzm_tup, fzm_obj, fzm_scr, fzm_olst, fzm_oll, fzm_oobj, fzm_m, frz_non, frz_int, frz_bl, frz_str, frz_lst, frz_tup, frz_obj, frz_dct, frz_scr, frz_olst, frz_oll, frz_m, fz_no, fz_tr, see_no, see_tr, asB_bl, asI_int, asgD_non, asgD_int, asgD_bl, asgD_lst, asgD_tup, asgD_obj, asgD_mv, asgD_m, it_lst, it_olst, it_scr, li_lst, li_olst, pit_lst, pit_scr, sz_lst, sz_olst, sz_oll, sz_scr, sz_tup, ad_int, ad_ll, ad_oo, ad_lo, ad_ol, mu_int, mu_l, mu_o, gI_int, gI0_int, gI2_int, ii_eqv, co_int, co_bl, co_non, co_row, co_rowO, co_nil, co_nilO, co_ps, co_p, co_p2, co_rows, ev_ll, ev_ol, ev_lo, ev_oo, ev_ln, ev_lno, ev_on, ev_ono, in_ps, in_row, gEq, gNe, gIn, gNotIn, g1, g2, gLen, gList, δof, List.getElem?_cons_zero, List.getElem?_cons_succ, List.getElem?_nil, List.set_cons_zero, List.set_cons_succ, List.map_cons, List.map_nil, List.length_cons, List.length_nil, List.replicate_succ, List.replicate_zero, List.cons_append, List.nil_append, Option.bind_some, Option.bind_none, List.all_cons, List.all_nil, List.append_nil, Nat.reduceAdd, Nat.reduceSub, true_and, and_true, Bool.and_true, Bool.true_and]
    simpa [e] using h
def G_check_row (K : PySem.W.Frag) : GD := fun ds P => ∃ n ps xs, ds = [mK K n ps, rD xs] ∧ Kinds n xs ∧ xs.length ≤ 1000 ∧ P .non
/-! ### check_row -/
abbrev N_check_row : List Str := ["minds", "row", "kind"]
def T_check_row_c1 (K : PySem.W.Frag) : DE := (dFz (dMeth (He.ga K "Minds") "is_kind" (G_Minds_is_kind K) (dVar 0) (dCons (dVar 2) dNil)))
def T_check_row (K : PySem.W.Frag) : DS := (dIfS (dTo (dTn (dT (dIsi K (.type "list") (dVar 1)))) (dTn (dT (dCB gAll (dCons (dLc 2 (dIl (dVar 1)) dYes (T_check_row_c1 K)) dNil))))) dNev dNx)
theorem check_row_c {K : PySem.W.Frag} {n : Int} {ps : List (Int × Int)} {P : D → Prop} {e2 : DV} {row : D} : ∀ (xs : List Int) (acc : List D), Kinds n xs → acc.length + xs.length ≤ 1000 → P (.mv (.olst (acc ++ xs.map fun _ => .bl true))) → compGo 2 dYes (T_check_row_c1 K) P (xs.map .int) acc [.tr (mK K n ps), .tr row, e2]
  | [], acc, _, _, h => by
    rw [List.map_nil, List.append_nil] at h
    exact h
  | x :: xs, acc, hx, hl, h => by
    rw [List.length_cons] at hl
    refine compGo_op fun N hN => ?_
    simp only [T_check_row_c1, mK, dSeq, dIfS, dT, dTn, dTa, dTo, dOp, dVar, dC, dFz_eq, dCB, dCons, dNil, dCall, dCallB, dMeth, dMethB, dSet, dApp, dExt, dRet, dRetM, dNx, dDrop, dNeg, dAnd, dOr, dNot, dIf, dCh, dCh3, dU, dTup, dLst, dFld, dIsi, dIl, dIe, dIr1, dIr2, dIv1, dgN, dgT, putAll, dFor, dPar2, dPar3, dSetT, dLc, dYes, dSl, dNo, dSome, dRev, dNev, dSset, dCount, dIndex, dLrg1, dLrg2, dTwo, un_non, un_int, un_bl, un_str, un_lst, un_tup, un_obj, un_dct, un_scr, un_olst, un_oll, un_oobj, un_mv, un_m, un_p, pl_non, pl_int, pl_bl, pl_str, pl_lst, pl_tup, pl_obj, pl_dct, pl_scr, pl_m, pl_p, fzm_non, fzm_int, fzm_bl, fzm_lst, fzm_tup, fzm_obj, fzm_scr, fzm_olst, fzm_oll, fzm_oobj, fzm_m, frz_non, frz_int, frz_bl, frz_str, frz_lst, frz_tup, frz_obj, frz_dct, frz_scr, frz_olst, frz_oll, frz_m, fz_no, fz_tr, see_no, see_tr, asB_bl, asI_int, asgD_non, asgD_int, asgD_bl, asgD_lst, asgD_tup, asgD_obj, asgD_mv, asgD_m, it_lst, it_olst, it_scr, li_lst, li_olst, pit_lst, pit_scr, sz_lst, sz_olst, sz_oll, sz_scr, sz_tup, ad_int, ad_ll, ad_oo, ad_lo, ad_ol, mu_int, mu_l, mu_o, gI_int, gI0_int, gI2_int, ii_eqv, co_int, co_bl, co_non, co_row, co_rowO, co_nil, co_nilO, co_ps, co_p, co_p2, co_rows, ev_ll, ev_ol, ev_lo, ev_oo, ev_ln, ev_lno, ev_on, ev_ono, in_ps, in_row, gEq, gNe, gIn, gNotIn, g1, g2, gLen, gList, δof, List.getElem?_cons_zero, List.getElem?_cons_succ, List.getElem?_nil, List.set_cons_zero, List.set_cons_succ, List.map_cons, List.map_nil, List.length_cons, List.length_nil, List.replicate_succ, List.replicate_zero, List.cons_append, List.nil_append, Option.bind_some, Option.bind_none, List.all_cons, List.all_nil, List.append_nil, Nat.reduceAdd, Nat.reduceSub, true_and, and_true, Bool.and_true, Bool.true_and]
    refine ⟨isA_is_kind, n, ps, x, rfl, ?_⟩
    have hx0 := hx x List.mem_cons_self
    simp only [decide_eq_true hx0, dSeq, dIfS, dT, dTn, dTa, dTo, dOp, dVar, dC, dFz_eq, dCB, dCons, dNil, dCall, dCallB, dMeth, dMethB, dSet, dApp, dExt, dRet, dRetM, dNx, dDrop, dNeg, dAnd, dOr, dNot, dIf, dCh, dCh3, dU, dTup, dLst, dFld, dIsi, dIl, dIe, dIr1, dIr2, dIv1, dgN, dgT, putAll, dFor, dPar2, dPar3, dSetT, dLc, dYes, dSl, dNo, dSome, dRev, dNev, dSset, dCount, dIndex, dLrg1, dLrg2, dTwo, un_non, un_int, un_bl, un_str, un_lst, un_tup, un_obj, un_dct, un_scr, un_olst, un_oll, un_oobj, un_mv, un_m, un_p, pl_non, pl_int, pl_bl, pl_str, pl_lst, pl_tup, pl_obj, pl_dct, pl_scr, pl_m, pl_p, fzm_non, fzm_int, fzm_bl, fzm_lst, fzm_tup, fzm_obj, fzm_scr, fzm_olst, fzm_oll, fzm_oobj, fzm_m, frz_non, frz_int, frz_bl, frz_str, frz_lst, frz_tup, frz_obj, frz_dct, frz_scr, frz_olst, frz_oll, frz_m, fz_no, fz_tr, see_no, see_tr, asB_bl, asI_int, asgD_non, asgD_int, asgD_bl, asgD_lst, asgD_tup, asgD_obj, asgD_mv, asgD_m, it_lst, it_olst, it_scr, li_lst, li_olst, pit_lst, pit_scr, sz_lst, sz_olst, sz_oll, sz_scr, sz_tup, ad_int, ad_ll, ad_oo, ad_lo, ad_ol, mu_int, mu_l, mu_o, gI_int, gI0_int, gI2_int, ii_eqv, co_int, co_bl, co_non, co_row, co_rowO, co_nil, co_nilO, co_ps, co_p, co_p2, co_rows, ev_ll, ev_ol, ev_lo, ev_oo, ev_ln, ev_lno, ev_on, ev_ono, in_ps, in_row, gEq, gNe, gIn, gNotIn, g1, g2, gLen, gList, δof, List.getElem?_cons_zero, List.getElem?_cons_succ, List.getElem?_nil, List.set_cons_zero, List.set_cons_succ, List.map_cons, List.map_nil, List.length_cons, List.length_nil, List.replicate_succ, List.replicate_zero, List.cons_append, List.nil_append, Option.bind_some, Option.bind_none, List.all_cons, List.all_nil, List.append_nil, Nat.reduceAdd, Nat.reduceSub, true_and, and_true, Bool.and_true, Bool.true_and]
    refine ⟨by omega, ?_⟩
    rw [hN]
    refine check_row_c (K := K) (n := n) (ps := ps) (row := row) (e2 := e2) xs _ (fun y hy => hx y (List.mem_cons_of_mem _ hy)) (by rw [List.length_append, List.length_cons, List.length_nil]; omega) ?_
    rw [List.append_assoc]
    exact h
theorem bools_map {α : Type} (xs : List α) (f : α → Bool) : (D.olst (xs.map fun x => .bl (f x))).bools = some (xs.map f) := by
  show (xs.map fun x => D.bl (f x)).foldr _ _ = _
  induction xs with
  | nil => rfl
  | cons x xs ih => rw [List.map_cons, List.foldr_cons, ih]; rfl
theorem ga_map {α : Type} {xs : List α} {f : α → Bool} {P : D → Prop} (h : P (.bl (xs.all f))) : gAll [.olst (xs.map fun x => .bl (f x))] P := by
  show (match (D.olst (xs.map fun x => .bl (f x))).bools with
    | some bs => P (.bl (bs.all id))
    | none => False)
  rw [bools_map, ]
  show P (.bl ((xs.map f).all id))
  rw [List.all_map]
  exact h
theorem gy_map {α : Type} {xs : List α} {f : α → Bool} {P : D → Prop} (h : P (.bl (xs.any f))) : gAny [.olst (xs.map fun x => .bl (f x))] P := by
  show (match (D.olst (xs.map fun x => .bl (f x))).bools with
    | some bs => P (.bl (bs.any id))
    | none => False)
  rw [bools_map, ]
  show P (.bl ((xs.map f).any id))
  rw [List.any_map]
  exact h
theorem rd_check_row {K : PySem.W.Frag} : ∀ ds Q, G_check_row K ds Q → T_check_row K { nx := fun _ => Q .non, rt := Q } (δof N_check_row.length ds) := by
  rintro _ Q ⟨n, ps, xs, rfl, hx, hl, h⟩
  simp only [T_check_row, mK, rD, dSeq, dIfS, dT, dTn, dTa, dTo, dOp, dVar, dC, dFz_eq, dCB, dCons, dNil, dCall, dCallB, dMeth, dMethB, dSet, dApp, dExt, dRet, dRetM, dNx, dDrop, dNeg, dAnd, dOr, dNot, dIf, dCh, dCh3, dU, dTup, dLst, dFld, dIsi, dIl, dIe, dIr1, dIr2, dIv1, dgN, dgT, putAll, dFor, dPar2, dPar3, dSetT, dLc, dYes, dSl, dNo, dSome, dRev, dNev, dSset, dCount, dIndex, dLrg1, dLrg2, dTwo, un_non, un_int, un_bl, un_str, un_lst, un_tup, un_obj, un_dct, un_scr, un_olst, un_oll, un_oobj, un_mv, un_m, un_p, pl_non, pl_int, pl_bl, pl_str, pl_lst, pl_tup, pl_obj, pl_dct, pl_scr, pl_m, pl_p, fzm_non, fzm_int, fzm_bl, fzm_lst, fzm_tup, fzm_obj, fzm_scr, fzm_olst, fzm_oll, fzm_oobj, fzm_m, frz_non, frz_int, frz_bl, frz_str, frz_lst, frz_tup, frz_obj, frz_dct, frz_scr, frz_olst, frz_oll, frz_m, fz_no, fz_tr, see_no, see_tr, asB_bl, asI_int, asgD_non, asgD_int, asgD_bl, asgD_lst, asgD_tup, asgD_obj, asgD_mv, asgD_m, it_lst, it_olst, it_scr, li_lst, li_olst, pit_lst, pit_scr, sz_lst, sz_olst, sz_oll, sz_scr, sz_tup, ad_int, ad_ll, ad_oo, ad_lo, ad_ol, mu_int, mu_l, mu_o, gI_int, gI0_int, gI2_int, ii_eqv, co_int, co_bl, co_non, co_row, co_rowO, co_nil, co_nilO, co_ps, co_p, co_p2, co_rows, ev_ll, ev_ol, ev_lo, ev_oo, ev_ln, ev_lno, ev_on, ev_ono, in_ps, in_row, gEq, gNe, gIn, gNotIn, g1, g2, gLen, gList, δof, List.getElem?_cons_zero, List.getElem?_cons_succ, List.getElem?_nil, List.set_cons_zero, List.set_cons_succ, List.map_cons, List.map_nil, List.length_cons, List.length_nil, List.replicate_succ, List.replicate_zero, List.cons_append, List.nil_append, Option.bind_some, Option.bind_none, List.all_cons, List.all_nil, List.append_nil, Nat.reduceAdd, Nat.reduceSub, true_and, and_true, Bool.and_true, Bool.true_and]
  refine ⟨true, rfl, ?_⟩
  simp only [dSeq, dIfS, dT, dTn, dTa, dTo, dOp, dVar, dC, dFz_eq, dCB, dCons, dNil, dCall, dCallB, dMeth, dMethB, dSet, dApp, dExt, dRet, dRetM, dNx, dDrop, dNeg, dAnd, dOr, dNot, dIf, dCh, dCh3, dU, dTup, dLst, dFld, dIsi, dIl, dIe, dIr1, dIr2, dIv1, dgN, dgT, putAll, dFor, dPar2, dPar3, dSetT, dLc, dYes, dSl, dNo, dSome, dRev, dNev, dSset, dCount, dIndex, dLrg1, dLrg2, dTwo, un_non, un_int, un_bl, un_str, un_lst, un_tup, un_obj, un_dct, un_scr, un_olst, un_oll, un_oobj, un_mv, un_m, un_p, pl_non, pl_int, pl_bl, pl_str, pl_lst, pl_tup, pl_obj, pl_dct, pl_scr, pl_m, pl_p, fzm_non, fzm_int, fzm_bl, fzm_lst, fzm_tup, fzm_obj, fzm_scr, fzm_olst, fzm_oll, fzm_oobj, fzm_m, frz_non, frz_int, frz_bl, frz_str, frz_lst, frz_tup, frz_obj, frz_dct, frz_scr, frz_olst, frz_oll, frz_m, fz_no, fz_tr, see_no, see_tr, asB_bl, asI_int, asgD_non, asgD_int, asgD_bl, asgD_lst, asgD_tup, asgD_obj, asgD_mv, asgD_m, it_lst, it_olst, it_scr, li_lst, li_olst, pit_lst, pit_scr, sz_lst, sz_olst, sz_oll, sz_scr, sz_tup, ad_int, ad_ll, ad_oo, ad_lo, ad_ol, mu_int, mu_l, mu_o, gI_int, gI0_int, gI2_int, ii_eqv, co_int, co_bl, co_non, co_row, co_rowO, co_nil, co_nilO, co_ps, co_p, co_p2, co_rows, ev_ll, ev_ol, ev_lo, ev_oo, ev_ln, ev_lno, ev_on, ev_ono, in_ps, in_row, gEq, gNe, gIn, gNotIn, g1, g2, gLen, gList, δof, List.getElem?_cons_zero, List.getElem?_cons_succ, List.getElem?_nil, List.set_cons_zero, List.set_cons_succ, List.map_cons, List.map_nil, List.length_cons, List.length_nil, List.replicate_succ, List.replicate_zero, List.cons_append, List.nil_append, Option.bind_some, Option.bind_none, List.all_cons, List.all_nil, List.append_nil, Nat.reduceAdd, Nat.reduceSub, true_and, and_true, Bool.and_true, Bool.true_and]
  refine check_row_c xs [] hx (by simpa using hl) ?_
  simp only [dSeq, dIfS, dT, dTn, dTa, dTo, dOp, dVar, dC, dFz_eq, dCB, dCons, dNil, dCall, dCallB, dMeth, dMethB, dSet, dApp, dExt, dRet, dRetM, dNx, dDrop, dNeg, dAnd, dOr, dNot, dIf, dCh, dCh3, dU, dTup, dLst, dFld, dIsi, dIl, dIe, dIr1, dIr2, dIv1, dgN, dgT, putAll, dFor, dPar2, dPar3, dSetT, dLc, dYes, dSl, dNo, dSome, dRev, dNev, dSset, dCount, dIndex, dLrg1, dLrg2, dTwo, un_non, un_int, un_bl, un_str, un_lst, un_tup, un_obj, un_dct, un_scr, un_olst, un_oll, un_oobj, un_mv, un_m, un_p, pl_non, pl_int, pl_bl, pl_str, pl_lst, pl_tup, pl_obj, pl_dct, pl_scr, pl_m, pl_p, fzm_non, fzm_int, fzm_bl, fzm_lst, fzm_tup, fzm_obj, fzm_scr, fzm_olst, fzm_oll, fzm_oobj, fzm_m, frz_non, frz_int, frz_bl, frz_str, frz_lst, frz_tup, frz_obj, frz_dct, frz_scr, frz_olst, frz_oll, frz_m, fz_no, fz_tr, see_no, see_tr, asB_bl, asI_int, asgD_non, asgD_int, asgD_bl, asgD_lst, asgD_tup, asgD_obj, asgD_mv, asgD_m, it_lst, it_olst, it_scr, li_lst, li_olst, pit_lst, pit_scr, sz_lst, sz_olst, sz_oll, sz_scr, sz_tup, ad_int, ad_ll, ad_oo, ad_lo, ad_ol, mu_int, mu_l, mu_o, gI_int, gI0_int, gI2_int, ii_eqv, co_int, co_bl, co_non, co_row, co_rowO, co_nil, co_nilO, co_ps, co_p, co_p2, co_rows, ev_ll, ev_ol, ev_lo, ev_oo, ev_ln, ev_lno, ev_on, ev_ono, in_ps, in_row, gEq, gNe, gIn, gNotIn, g1, g2, gLen, gList, δof, List.getElem?_cons_zero, List.getElem?_cons_succ, List.getElem?_nil, List.set_cons_zero, List.set_cons_succ, List.map_cons, List.map_nil, List.length_cons, List.length_nil, List.replicate_succ, List.replicate_zero, List.cons_append, List.nil_append, Option.bind_some, Option.bind_none, List.all_cons, List.all_nil, List.append_nil, Nat.reduceAdd, Nat.reduceSub, true_and, and_true, Bool.and_true, Bool.true_and]
  refine ga_map ?_
  have z : (xs.all fun _ => true) = true := by simp
  rw [z]
  exact h
def pf (m : Int → Int → Bool) (k : Int) : List Int → Nat → Int
  | [], _ => -1
  | x :: xs, i => if x = k then (i : Int) else if m x k then -1 else pf m k xs (i + 1)
def G_place_first (K : PySem.W.Frag) : GD := fun ds P => ∃ n ps xs k, ds = [mK K n ps, rD xs, .int k] ∧ P (.int (pf (mnd ps) k xs 0))
/-! ### place_first -/
abbrev N_place_first : List Str := ["minds", "row", "kind", "place", "other"]
def T_place_first_f1 (K : PySem.W.Frag) : DS := (dSeq (dIfS (dT (dOp gEq (dVar 4) (dVar 2))) (dRet (dVar 3)) dNx)
  (dIfS (dT (dMeth (He.ga K "Minds") "minding" (G_Minds_minding K) (dVar 0) (dCons (dVar 4) (dCons (dVar 2) dNil)))) (dRet (dNeg (dC (.int 1)))) dNx))
def T_place_first (K : PySem.W.Frag) : DS := (dSeq (dFor (dIe (dCons (dVar 1) dNil)) (dgT [3, 4]) (T_place_first_f1 K))
  (dRet (dNeg (dC (.int 1)))))
theorem pf_loop {K : PySem.W.Frag} {n : Int} {ps : List (Int × Int)} {k : Int} {row : D} {E : EndsD} : ∀ (xs : List Int) (i : Nat) (e1 e2 : DV) (P : Int → Prop), (∀ j, P j → E.rt (.int j)) → (P (-1) → ∀ e1 e2, E.nx [.tr (mK K n ps), .tr row, .tr (.int k), e1, e2]) → P (pf (mnd ps) k xs i) →
    forGo (dgT [3, 4]) (T_place_first_f1 K) E (((xs.map D.int).zipIdx i).map fun p => D.tup [.int (p.2 : Int), p.1]) [.tr (mK K n ps), .tr row, .tr (.int k), e1, e2]
  | [], i, e1, e2, P, h1, h2, h => h2 h e1 e2
  | x :: xs, i, e1, e2, P, h1, h2, h => by
    rw [List.map_cons, List.zipIdx_cons, List.map_cons]
    refine forGo_op fun N hN => ?_
    simp only [T_place_first_f1, mK, dSeq, dIfS, dT, dTn, dTa, dTo, dOp, dVar, dC, dFz_eq, dCB, dCons, dNil, dCall, dCallB, dMeth, dMethB, dSet, dApp, dExt, dRet, dRetM, dNx, dDrop, dNeg, dAnd, dOr, dNot, dIf, dCh, dCh3, dU, dTup, dLst, dFld, dIsi, dIl, dIe, dIr1, dIr2, dIv1, dgN, dgT, putAll, dFor, dPar2, dPar3, dSetT, dLc, dYes, dSl, dNo, dSome, dRev, dNev, dSset, dCount, dIndex, dLrg1, dLrg2, dTwo, un_non, un_int, un_bl, un_str, un_lst, un_tup, un_obj, un_dct, un_scr, un_olst, un_oll, un_oobj, un_mv, un_m, un_p, pl_non, pl_int, pl_bl, pl_str, pl_lst, pl_tup, pl_obj, pl_dct, pl_scr, pl_m, pl_p, fzm_non, fzm_int, fzm_bl, fzm_lst, fzm_tup, fzm_obj, fzm_scr, fzm_olst, fzm_oll, fzm_oobj, fzm_m, frz_non, frz_int, frz_bl, frz_str, frz_lst, frz_tup, frz_obj, frz_dct, frz_scr, frz_olst, frz_oll, frz_m, fz_no, fz_tr, see_no, see_tr, asB_bl, asI_int, asgD_non, asgD_int, asgD_bl, asgD_lst, asgD_tup, asgD_obj, asgD_mv, asgD_m, it_lst, it_olst, it_scr, li_lst, li_olst, pit_lst, pit_scr, sz_lst, sz_olst, sz_oll, sz_scr, sz_tup, ad_int, ad_ll, ad_oo, ad_lo, ad_ol, mu_int, mu_l, mu_o, gI_int, gI0_int, gI2_int, ii_eqv, co_int, co_bl, co_non, co_row, co_rowO, co_nil, co_nilO, co_ps, co_p, co_p2, co_rows, ev_ll, ev_ol, ev_lo, ev_oo, ev_ln, ev_lno, ev_on, ev_ono, in_ps, in_row, gEq, gNe, gIn, gNotIn, g1, g2, gLen, gList, δof, List.getElem?_cons_zero, List.getElem?_cons_succ, List.getElem?_nil, List.set_cons_zero, List.set_cons_succ, List.map_cons, List.map_nil, List.length_cons, List.length_nil, List.replicate_succ, List.replicate_zero, List.cons_append, List.nil_append, Option.bind_some, Option.bind_none, List.all_cons, List.all_nil, List.append_nil, Nat.reduceAdd, Nat.reduceSub, true_and, and_true, Bool.and_true, Bool.true_and]
    unfold pf at h
    by_cases hk : x = k
    · rw [if_pos hk] at h
      simp only [hk, decide_true, dSeq, dIfS, dT, dTn, dTa, dTo, dOp, dVar, dC, dFz_eq, dCB, dCons, dNil, dCall, dCallB, dMeth, dMethB, dSet, dApp, dExt, dRet, dRetM, dNx, dDrop, dNeg, dAnd, dOr, dNot, dIf, dCh, dCh3, dU, dTup, dLst, dFld, dIsi, dIl, dIe, dIr1, dIr2, dIv1, dgN, dgT, putAll, dFor, dPar2, dPar3, dSetT, dLc, dYes, dSl, dNo, dSome, dRev, dNev, dSset, dCount, dIndex, dLrg1, dLrg2, dTwo, un_non, un_int, un_bl, un_str, un_lst, un_tup, un_obj, un_dct, un_scr, un_olst, un_oll, un_oobj, un_mv, un_m, un_p, pl_non, pl_int, pl_bl, pl_str, pl_lst, pl_tup, pl_obj, pl_dct, pl_scr, pl_m, pl_p, fzm_non, fzm_int, fzm_bl, fzm_lst, fzm_tup, fzm_obj, fzm_scr, fzm_olst, fzm_oll, fzm_oobj, fzm_m, frz_non, frz_int, frz_bl, frz_str, frz_lst, frz_tup, frz_obj, frz_dct, frz_scr, frz_olst, frz_oll, frz_m, fz_no, fz_tr, see_no, see_tr, asB_bl, asI_int, asgD_non, asgD_int, asgD_bl, asgD_lst, asgD_tup, asgD_obj, asgD_mv, asgD_m, it_lst, it_olst, it_scr, li_lst, li_olst, pit_lst, pit_scr, sz_lst, sz_olst, sz_oll, sz_scr, sz_tup, ad_int, ad_ll, ad_oo, ad_lo, ad_ol, mu_int, mu_l, mu_o, gI_int, gI0_int, gI2_int, ii_eqv, co_int, co_bl, co_non, co_row, co_rowO, co_nil, co_nilO, co_ps, co_p, co_p2, co_rows, ev_ll, ev_ol, ev_lo, ev_oo, ev_ln, ev_lno, ev_on, ev_ono, in_ps, in_row, gEq, gNe, gIn, gNotIn, g1, g2, gLen, gList, δof, List.getElem?_cons_zero, List.getElem?_cons_succ, List.getElem?_nil, List.set_cons_zero, List.set_cons_succ, List.map_cons, List.map_nil, List.length_cons, List.length_nil, List.replicate_succ, List.replicate_zero, List.cons_append, List.nil_append, Option.bind_some, Option.bind_none, List.all_cons, List.all_nil, List.append_nil, Nat.reduceAdd, Nat.reduceSub, true_and, and_true, Bool.and_true, Bool.true_and]
      exact h1 _ h
    · rw [if_neg hk] at h
      simp only [decide_eq_false hk, dSeq, dIfS, dT, dTn, dTa, dTo, dOp, dVar, dC, dFz_eq, dCB, dCons, dNil, dCall, dCallB, dMeth, dMethB, dSet, dApp, dExt, dRet, dRetM, dNx, dDrop, dNeg, dAnd, dOr, dNot, dIf, dCh, dCh3, dU, dTup, dLst, dFld, dIsi, dIl, dIe, dIr1, dIr2, dIv1, dgN, dgT, putAll, dFor, dPar2, dPar3, dSetT, dLc, dYes, dSl, dNo, dSome, dRev, dNev, dSset, dCount, dIndex, dLrg1, dLrg2, dTwo, un_non, un_int, un_bl, un_str, un_lst, un_tup, un_obj, un_dct, un_scr, un_olst, un_oll, un_oobj, un_mv, un_m, un_p, pl_non, pl_int, pl_bl, pl_str, pl_lst, pl_tup, pl_obj, pl_dct, pl_scr, pl_m, pl_p, fzm_non, fzm_int, fzm_bl, fzm_lst, fzm_tup, fzm_obj, fzm_scr, fzm_olst, fzm_oll, fzm_oobj, fzm_m, frz_non, frz_int, frz_bl, frz_str, frz_lst, frz_tup, frz_obj, frz_dct, frz_scr, frz_olst, frz_oll, frz_m, fz_no, fz_tr, see_no, see_tr, asB_bl, asI_int, asgD_non, asgD_int, asgD_bl, asgD_lst, asgD_tup, asgD_obj, asgD_mv, asgD_m, it_lst, it_olst, it_scr, li_lst, li_olst, pit_lst, pit_scr, sz_lst, sz_olst, sz_oll, sz_scr, sz_tup, ad_int, ad_ll, ad_oo, ad_lo, ad_ol, mu_int, mu_l, mu_o, gI_int, gI0_int, gI2_int, ii_eqv, co_int, co_bl, co_non, co_row, co_rowO, co_nil, co_nilO, co_ps, co_p, co_p2, co_rows, ev_ll, ev_ol, ev_lo, ev_oo, ev_ln, ev_lno, ev_on, ev_ono, in_ps, in_row, gEq, gNe, gIn, gNotIn, g1, g2, gLen, gList, δof, List.getElem?_cons_zero, List.getElem?_cons_succ, List.getElem?_nil, List.set_cons_zero, List.set_cons_succ, List.map_cons, List.map_nil, List.length_cons, List.length_nil, List.replicate_succ, List.replicate_zero, List.cons_append, List.nil_append, Option.bind_some, Option.bind_none, List.all_cons, List.all_nil, List.append_nil, Nat.reduceAdd, Nat.reduceSub, true_and, and_true, Bool.and_true, Bool.true_and]
      refine ⟨isA_minding, n, ps, x, k, rfl, ?_⟩
      cases hm : mnd ps x k with
      | true =>
        rw [if_pos hm] at h
        simp only [dSeq, dIfS, dT, dTn, dTa, dTo, dOp, dVar, dC, dFz_eq, dCB, dCons, dNil, dCall, dCallB, dMeth, dMethB, dSet, dApp, dExt, dRet, dRetM, dNx, dDrop, dNeg, dAnd, dOr, dNot, dIf, dCh, dCh3, dU, dTup, dLst, dFld, dIsi, dIl, dIe, dIr1, dIr2, dIv1, dgN, dgT, putAll, dFor, dPar2, dPar3, dSetT, dLc, dYes, dSl, dNo, dSome, dRev, dNev, dSset, dCount, dIndex, dLrg1, dLrg2, dTwo, un_non, un_int, un_bl, un_str, un_lst, un_tup, un_obj, un_dct, un_scr, un_olst, un_oll, un_oobj, un_mv, un_m, un_p, pl_non, pl_int, pl_bl, pl_str, pl_lst, pl_tup, pl_obj, pl_dct, pl_scr, pl_m, pl_p, fzm_non, fzm_int, fzm_bl, fzm_lst, fzm_tup, fzm_obj, fzm_scr, fzm_olst, fzm_oll, fzm_oobj, fzm_m, frz_non, frz_int, frz_bl, frz_str, frz_lst, frz_tup, frz_obj, frz_dct, frz_scr, frz_olst, frz_oll, frz_m, fz_no, fz_tr, see_no, see_tr, asB_bl, asI_int, asgD_non, asgD_int, asgD_bl, asgD_lst, asgD_tup, asgD_obj, asgD_mv, asgD_m, it_lst, it_olst, it_scr, li_lst, li_olst, pit_lst, pit_scr, sz_lst, sz_olst, sz_oll, sz_scr, sz_tup, ad_int, ad_ll, ad_oo, ad_lo, ad_ol, mu_int, mu_l, mu_o, gI_int, gI0_int, gI2_int, ii_eqv, co_int, co_bl, co_non, co_row, co_rowO, co_nil, co_nilO, co_ps, co_p, co_p2, co_rows, ev_ll, ev_ol, ev_lo, ev_oo, ev_ln, ev_lno, ev_on, ev_ono, in_ps, in_row, gEq, gNe, gIn, gNotIn, g1, g2, gLen, gList, δof, List.getElem?_cons_zero, List.getElem?_cons_succ, List.getElem?_nil, List.set_cons_zero, List.set_cons_succ, List.map_cons, List.map_nil, List.length_cons, List.length_nil, List.replicate_succ, List.replicate_zero, List.cons_append, List.nil_append, Option.bind_some, Option.bind_none, List.all_cons, List.all_nil, List.append_nil, Nat.reduceAdd, Nat.reduceSub, true_and, and_true, Bool.and_true, Bool.true_and]
        exact h1 _ h
      | false =>
        rw [if_neg (by rw [hm]; decide)] at h
        simp only [dSeq, dIfS, dT, dTn, dTa, dTo, dOp, dVar, dC, dFz_eq, dCB, dCons, dNil, dCall, dCallB, dMeth, dMethB, dSet, dApp, dExt, dRet, dRetM, dNx, dDrop, dNeg, dAnd, dOr, dNot, dIf, dCh, dCh3, dU, dTup, dLst, dFld, dIsi, dIl, dIe, dIr1, dIr2, dIv1, dgN, dgT, putAll, dFor, dPar2, dPar3, dSetT, dLc, dYes, dSl, dNo, dSome, dRev, dNev, dSset, dCount, dIndex, dLrg1, dLrg2, dTwo, un_non, un_int, un_bl, un_str, un_lst, un_tup, un_obj, un_dct, un_scr, un_olst, un_oll, un_oobj, un_mv, un_m, un_p, pl_non, pl_int, pl_bl, pl_str, pl_lst, pl_tup, pl_obj, pl_dct, pl_scr, pl_m, pl_p, fzm_non, fzm_int, fzm_bl, fzm_lst, fzm_tup, fzm_obj, fzm_scr, fzm_olst, fzm_oll, fzm_oobj, fzm_m, frz_non, frz_int, frz_bl, frz_str, frz_lst, frz_tup, frz_obj, frz_dct, frz_scr, frz_olst, frz_oll, frz_m, fz_no, fz_tr, see_no, see_tr, asB_bl, asI_int, asgD_non, asgD_int, asgD_bl, asgD_lst, asgD_tup, asgD_obj, asgD_mv, asgD_m, it_lst, it_olst, it_scr, li_lst, li_olst, pit_lst, pit_scr, sz_lst, sz_olst, sz_oll, sz_scr, sz_tup, ad_int, ad_ll, ad_oo, ad_lo, ad_ol, mu_int, mu_l, mu_o, gI_int, gI0_int, gI2_int, ii_eqv, co_int, co_bl, co_non, co_row, co_rowO, co_nil, co_nilO, co_ps, co_p, co_p2, co_rows, ev_ll, ev_ol, ev_lo, ev_oo, ev_ln, ev_lno, ev_on, ev_ono, in_ps, in_row, gEq, gNe, gIn, gNotIn, g1, g2, gLen, gList, δof, List.getElem?_cons_zero, List.getElem?_cons_succ, List.getElem?_nil, List.set_cons_zero, List.set_cons_succ, List.map_cons, List.map_nil, List.length_cons, List.length_nil, List.replicate_succ, List.replicate_zero, List.cons_append, List.nil_append, Option.bind_some, Option.bind_none, List.all_cons, List.all_nil, List.append_nil, Nat.reduceAdd, Nat.reduceSub, true_and, and_true, Bool.and_true, Bool.true_and]
        rw [hN]
        exact pf_loop xs (i + 1) _ _ P h1 h2 h
theorem rd_place_first {K : PySem.W.Frag} : ∀ ds Q, G_place_first K ds Q → T_place_first K { nx := fun _ => Q .non, rt := Q } (δof N_place_first.length ds) := by
  rintro _ Q ⟨n, ps, xs, k, rfl, h⟩
  simp only [T_place_first, mK, rD, dSeq, dIfS, dT, dTn, dTa, dTo, dOp, dVar, dC, dFz_eq, dCB, dCons, dNil, dCall, dCallB, dMeth, dMethB, dSet, dApp, dExt, dRet, dRetM, dNx, dDrop, dNeg, dAnd, dOr, dNot, dIf, dCh, dCh3, dU, dTup, dLst, dFld, dIsi, dIl, dIe, dIr1, dIr2, dIv1, dgN, dgT, putAll, dFor, dPar2, dPar3, dSetT, dLc, dYes, dSl, dNo, dSome, dRev, dNev, dSset, dCount, dIndex, dLrg1, dLrg2, dTwo, un_non, un_int, un_bl, un_str, un_lst, un_tup, un_obj, un_dct, un_scr, un_olst, un_oll, un_oobj, un_mv, un_m, un_p, pl_non, pl_int, pl_bl, pl_str, pl_lst, pl_tup, pl_obj, pl_dct, pl_scr, pl_m, pl_p, fzm_non, fzm_int, fzm_bl, fzm_lst, fzm_tup, fzm_obj, fzm_scr, fzm_olst, fzm_oll, fzm_oobj, fzm_m, frz_non, frz_int, frz_bl, frz_str, frz_lst, frz_tup, frz_obj, frz_dct, frz_scr, frz_olst, frz_oll, frz_m, fz_no, fz_tr, see_no, see_tr, asB_bl, asI_int, asgD_non, asgD_int, asgD_bl, asgD_lst, asgD_tup, asgD_obj, asgD_mv, asgD_m, it_lst, it_olst, it_scr, li_lst, li_olst, pit_lst, pit_scr, sz_lst, sz_olst, sz_oll, sz_scr, sz_tup, ad_int, ad_ll, ad_oo, ad_lo, ad_ol, mu_int, mu_l, mu_o, gI_int, gI0_int, gI2_int, ii_eqv, co_int, co_bl, co_non, co_row, co_rowO, co_nil, co_nilO, co_ps, co_p, co_p2, co_rows, ev_ll, ev_ol, ev_lo, ev_oo, ev_ln, ev_lno, ev_on, ev_ono, in_ps, in_row, gEq, gNe, gIn, gNotIn, g1, g2, gLen, gList, δof, List.getElem?_cons_zero, List.getElem?_cons_succ, List.getElem?_nil, List.set_cons_zero, List.set_cons_succ, List.map_cons, List.map_nil, List.length_cons, List.length_nil, List.replicate_succ, List.replicate_zero, List.cons_append, List.nil_append, Option.bind_some, Option.bind_none, List.all_cons, List.all_nil, List.append_nil, Nat.reduceAdd, Nat.reduceSub, true_and, and_true, Bool.and_true, Bool.true_and]
  exact pf_loop xs 0 _ _ (fun j => Q (.int j)) (fun j hj => hj) (fun hj e1 e2 => hj) h
def G_without (_K : PySem.W.Frag) : GD := fun ds P => ∃ xs k, ds = [rD xs, .int (k : Nat)] ∧ k < xs.length ∧ xs.length ≤ 1000 ∧ P (.mv (.olst ((xs.eraseIdx k).map .int)))
/-! ### without -/
abbrev N_without : List Str := ["row", "place"]
def T_without (K : PySem.W.Frag) : DS := (dRet (dOp gAdd (dSl (dVar 0) dNo (dSome (dVar 1))) (dSl (dVar 0) (dSome (dOp gAdd (dVar 1) (dC (.int 1)))) dNo)))
theorem cut_to {α : Type} {xs : List α} {k : Nat} (h : k ≤ xs.length) : cutD xs none (some (k : Int)) = xs.take k := by
  unfold cutD
  rw [HT.sIx_none, HT.sIx_nat, List.drop_zero, Nat.min_eq_left h, Nat.sub_zero]
theorem cut_from {α : Type} {xs : List α} {k : Nat} (h : k ≤ xs.length) : cutD xs (some (k : Int)) none = xs.drop k := by
  unfold cutD
  rw [HT.sIx_none, HT.sIx_nat, Nat.min_eq_left h]
  exact List.take_of_length_le (by rw [List.length_drop]; exact Nat.le_refl _)
theorem rd_without {K : PySem.W.Frag} : ∀ ds Q, G_without K ds Q → T_without K { nx := fun _ => Q .non, rt := Q } (δof N_without.length ds) := by
  rintro _ Q ⟨xs, k, rfl, hk, hl, h⟩
  simp only [T_without, rD, dSeq, dIfS, dT, dTn, dTa, dTo, dOp, dVar, dC, dFz_eq, dCB, dCons, dNil, dCall, dCallB, dMeth, dMethB, dSet, dApp, dExt, dRet, dRetM, dNx, dDrop, dNeg, dAnd, dOr, dNot, dIf, dCh, dCh3, dU, dTup, dLst, dFld, dIsi, dIl, dIe, dIr1, dIr2, dIv1, dgN, dgT, putAll, dFor, dPar2, dPar3, dSetT, dLc, dYes, dSl, dNo, dSome, dRev, dNev, dSset, dCount, dIndex, dLrg1, dLrg2, dTwo, un_non, un_int, un_bl, un_str, un_lst, un_tup, un_obj, un_dct, un_scr, un_olst, un_oll, un_oobj, un_mv, un_m, un_p, pl_non, pl_int, pl_bl, pl_str, pl_lst, pl_tup, pl_obj, pl_dct, pl_scr, pl_m, pl_p, fzm_non, fzm_int, fzm_bl, fzm_lst, fzm_tup, fzm_obj, fzm_scr, fzm_olst, fzm_oll, fzm_oobj, fzm_m, frz_non, frz_int, frz_bl, frz_str, frz_lst, frz_tup, frz_obj, frz_dct, frz_scr, frz_olst, frz_oll, frz_m, fz_no, fz_tr, see_no, see_tr, asB_bl, asI_int, asgD_non, asgD_int, asgD_bl, asgD_lst, asgD_tup, asgD_obj, asgD_mv, asgD_m, it_lst, it_olst, it_scr, li_lst, li_olst, pit_lst, pit_scr, sz_lst, sz_olst, sz_oll, sz_scr, sz_tup, ad_int, ad_ll, ad_oo, ad_lo, ad_ol, mu_int, mu_l, mu_o, gI_int, gI0_int, gI2_int, ii_eqv, co_int, co_bl, co_non, co_row, co_rowO, co_nil, co_nilO, co_ps, co_p, co_p2, co_rows, ev_ll, ev_ol, ev_lo, ev_oo, ev_ln, ev_lno, ev_on, ev_ono, in_ps, in_row, gEq, gNe, gIn, gNotIn, g1, g2, gLen, gList, δof, List.getElem?_cons_zero, List.getElem?_cons_succ, List.getElem?_nil, List.set_cons_zero, List.set_cons_succ, List.map_cons, List.map_nil, List.length_cons, List.length_nil, List.replicate_succ, List.replicate_zero, List.cons_append, List.nil_append, Option.bind_some, Option.bind_none, List.all_cons, List.all_nil, List.append_nil, Nat.reduceAdd, Nat.reduceSub, true_and, and_true, Bool.and_true, Bool.true_and]
  have e : ((k : Int) + 1) = ((k + 1 : Nat) : Int) := by omega
  rw [e, cut_to (by rw [List.length_map]; omega), cut_from (by rw [List.length_map]; omega), ← List.map_take, ← List.map_drop, ← List.map_append, ← List.eraseIdx_eq_take_drop_succ]
  refine ⟨?_, h⟩
  rw [List.length_map, List.length_map, List.length_take, List.length_drop]
  omega
/-! ### the kinds of a row, rising -/
def ins (k : Int) : List Int → List Int
  | [] => [k]
  | x :: xs => if k < x then k :: x :: xs else if k = x then x :: xs else x :: ins k xs
def uni (xs : List Int) : List Int := xs.foldr ins []
theorem mem_ins {k j : Int} : ∀ {xs : List Int}, j ∈ ins k xs ↔ j = k ∨ j ∈ xs
  | [] => by simp [ins]
  | x :: xs => by
    unfold ins
    split
    · simp
    · split
      · rename_i h
        subst h
        simp
      · rw [List.mem_cons, List.mem_cons, mem_ins]
        constructor
        · rintro (h | h | h)
          · exact .inr (.inl h)
          · exact .inl h
          · exact .inr (.inr h)
        · rintro (h | h | h)
          · exact .inr (.inl h)
          · exact .inl h
          · exact .inr (.inr h)
theorem up_ins {k : Int} : ∀ {xs : List Int}, xs.Pairwise (· < ·) → (ins k xs).Pairwise (· < ·)
  | [], _ => by simp [ins]
  | x :: xs, h => by
    obtain ⟨h1, h2⟩ := List.pairwise_cons.mp h
    unfold ins
    split
    · rename_i hk
      refine List.pairwise_cons.mpr ⟨fun y hy => ?_, h⟩
      rcases List.mem_cons.mp hy with rfl | hy
      · exact hk
      · exact Int.lt_trans hk (h1 y hy)
    · split
      · exact h
      · refine List.pairwise_cons.mpr ⟨fun y hy => ?_, up_ins h2⟩
        rcases mem_ins.mp hy with rfl | hy
        · omega
        · exact h1 y hy
theorem mem_uni {j : Int} : ∀ {xs : List Int}, j ∈ uni xs ↔ j ∈ xs
  | [] => by simp [uni]
  | x :: xs => by
    show j ∈ ins x (uni xs) ↔ _
    rw [mem_ins, mem_uni, List.mem_cons]
theorem up_uni : ∀ {xs : List Int}, (uni xs).Pairwise (· < ·)
  | [] => by simp [uni]
  | x :: xs => up_ins (up_uni (xs := xs))
/-- of the same members, rising: the same -/
theorem up_eq : ∀ {xs ys : List Int}, xs.Pairwise (· < ·) → ys.Pairwise (· < ·) → (∀ k, k ∈ xs ↔ k ∈ ys) → xs = ys
  | [], [], _, _, _ => rfl
  | [], y :: ys, _, _, h => absurd ((h y).mpr List.mem_cons_self) List.not_mem_nil
  | x :: xs, [], _, _, h => absurd ((h x).mp List.mem_cons_self) List.not_mem_nil
  | x :: xs, y :: ys, hx, hy, h => by
    obtain ⟨x1, x2⟩ := List.pairwise_cons.mp hx
    obtain ⟨y1, y2⟩ := List.pairwise_cons.mp hy
    have e : x = y := by
      have a := (h x).mp List.mem_cons_self
      have b := (h y).mpr List.mem_cons_self
      rcases List.mem_cons.mp a with e | a
      · exact e
      · rcases List.mem_cons.mp b with e | b
        · exact e.symm
        · have := x1 y b
          have := y1 x a
          omega
    subst e
    congr 1
    refine up_eq x2 y2 fun k => ?_
    have z := h k
    rw [List.mem_cons, List.mem_cons] at z
    constructor
    · intro hk
      rcases z.mp (.inr hk) with e | e
      · have := x1 k hk
        omega
      · exact e
    · intro hk
      rcases z.mpr (.inr hk) with e | e
      · have := y1 k hk
        omega
      · exact e
def fst (m : Int → Int → Bool) (xs : List Int) : List Int := (uni xs).filter fun k => decide (0 ≤ pf m k xs 0)
def G_firsts_of (K : PySem.W.Frag) : GD := fun ds P => ∃ n ps xs, ds = [mK K n ps, rD xs] ∧ xs.length ≤ 1000 ∧ P (.mv (.olst ((fst (mnd ps) xs).map .int)))
/-! ### firsts_of -/
abbrev N_firsts_of : List Str := ["minds", "row", "kind"]
def T_firsts_of_c1 (K : PySem.W.Frag) : DE := (dVar 2)
def T_firsts_of_c1t (K : PySem.W.Frag) : DT := (dT (dOp gGe (dCall (G_place_first K) (dCons (dVar 0) (dCons (dVar 1) (dCons (dVar 2) dNil)))) (dC (.int 0))))
def T_firsts_of (K : PySem.W.Frag) : DS := (dRet (dLc 2 (dIl (dFz (dSset (dVar 1)))) (T_firsts_of_c1t K) (T_firsts_of_c1 K)))
theorem firsts_of_c {K : PySem.W.Frag} {n : Int} {ps : List (Int × Int)} {xs : List Int} {P : D → Prop} {e2 : DV} : ∀ (ks : List Int) (acc : List Int), acc.length + ks.length ≤ 1000 → P (.mv (.olst ((acc ++ ks.filter fun k => decide (0 ≤ pf (mnd ps) k xs 0)).map .int))) → compGo 2 (T_firsts_of_c1t K) (T_firsts_of_c1 K) P (ks.map .int) (acc.map .int) [.tr (mK K n ps), .tr (rD xs), e2]
  | [], acc, _, h => by
    rw [List.filter_nil, List.append_nil] at h
    exact h
  | k :: ks, acc, hl, h => by
    rw [List.length_cons] at hl
    refine compGo_op fun N hN => ?_
    simp only [T_firsts_of_c1t, T_firsts_of_c1, mK, rD, dSeq, dIfS, dT, dTn, dTa, dTo, dOp, dVar, dC, dFz_eq, dCB, dCons, dNil, dCall, dCallB, dMeth, dMethB, dSet, dApp, dExt, dRet, dRetM, dNx, dDrop, dNeg, dAnd, dOr, dNot, dIf, dCh, dCh3, dU, dTup, dLst, dFld, dIsi, dIl, dIe, dIr1, dIr2, dIv1, dgN, dgT, putAll, dFor, dPar2, dPar3, dSetT, dLc, dYes, dSl, dNo, dSome, dRev, dNev, dSset, dCount, dIndex, dLrg1, dLrg2, dTwo, un_non, un_int, un_bl, un_str, un_lst, un_tup, un_obj, un_dct, un_scr, un_olst, un_oll, un_oobj, un_mv, un_m, un_p, pl_non, pl_int, pl_bl, pl_str, pl_lst, pl_tup, pl_obj, pl_dct, pl_scr, pl_m, pl_p, fzm_non, fzm_int, fzm_bl, fzm_lst, fzm_tup, fzm_obj, fzm_scr, fzm_olst, fzm_oll, fzm_oobj, fzm_m, frz_non, frz_int, frz_bl, frz_str, frz_lst, frz_tup, frz_obj, frz_dct, frz_scr, frz_olst, frz_oll, frz_m, fz_no, fz_tr, see_no, see_tr, asB_bl, asI_int, asgD_non, asgD_int, asgD_bl, asgD_lst, asgD_tup, asgD_obj, asgD_mv, asgD_m, it_lst, it_olst, it_scr, li_lst, li_olst, pit_lst, pit_scr, sz_lst, sz_olst, sz_oll, sz_scr, sz_tup, ad_int, ad_ll, ad_oo, ad_lo, ad_ol, mu_int, mu_l, mu_o, gI_int, gI0_int, gI2_int, ii_eqv, co_int, co_bl, co_non, co_row, co_rowO, co_nil, co_nilO, co_ps, co_p, co_p2, co_rows, ev_ll, ev_ol, ev_lo, ev_oo, ev_ln, ev_lno, ev_on, ev_ono, in_ps, in_row, gEq, gNe, gIn, gNotIn, g1, g2, gLen, gList, δof, List.getElem?_cons_zero, List.getElem?_cons_succ, List.getElem?_nil, List.set_cons_zero, List.set_cons_succ, List.map_cons, List.map_nil, List.length_cons, List.length_nil, List.replicate_succ, List.replicate_zero, List.cons_append, List.nil_append, Option.bind_some, Option.bind_none, List.all_cons, List.all_nil, List.append_nil, Nat.reduceAdd, Nat.reduceSub, true_and, and_true, Bool.and_true, Bool.true_and]
    refine ⟨n, ps, xs, k, rfl, ?_⟩
    by_cases e : 0 ≤ pf (mnd ps) k xs 0
    · simp only [decide_eq_true e, dSeq, dIfS, dT, dTn, dTa, dTo, dOp, dVar, dC, dFz_eq, dCB, dCons, dNil, dCall, dCallB, dMeth, dMethB, dSet, dApp, dExt, dRet, dRetM, dNx, dDrop, dNeg, dAnd, dOr, dNot, dIf, dCh, dCh3, dU, dTup, dLst, dFld, dIsi, dIl, dIe, dIr1, dIr2, dIv1, dgN, dgT, putAll, dFor, dPar2, dPar3, dSetT, dLc, dYes, dSl, dNo, dSome, dRev, dNev, dSset, dCount, dIndex, dLrg1, dLrg2, dTwo, un_non, un_int, un_bl, un_str, un_lst, un_tup, un_obj, un_dct, un_scr, un_olst, un_oll, un_oobj, un_mv, un_m, un_p, pl_non, pl_int, pl_bl, pl_str, pl_lst, pl_tup, pl_obj, pl_dct, pl_scr, pl_m, pl_p, fzm_non, fzm_int, fzm_bl, fzm_lst, fzm_tup, fzm_obj, fzm_scr, fzm_olst, fzm_oll, fzm_oobj, fzm_m, frz_non, frz_int, frz_bl, frz_str, frz_lst, frz_tup, frz_obj, frz_dct, frz_scr, frz_olst, frz_oll, frz_m, fz_no, fz_tr, see_no, see_tr, asB_bl, asI_int, asgD_non, asgD_int, asgD_bl, asgD_lst, asgD_tup, asgD_obj, asgD_mv, asgD_m, it_lst, it_olst, it_scr, li_lst, li_olst, pit_lst, pit_scr, sz_lst, sz_olst, sz_oll, sz_scr, sz_tup, ad_int, ad_ll, ad_oo, ad_lo, ad_ol, mu_int, mu_l, mu_o, gI_int, gI0_int, gI2_int, ii_eqv, co_int, co_bl, co_non, co_row, co_rowO, co_nil, co_nilO, co_ps, co_p, co_p2, co_rows, ev_ll, ev_ol, ev_lo, ev_oo, ev_ln, ev_lno, ev_on, ev_ono, in_ps, in_row, gEq, gNe, gIn, gNotIn, g1, g2, gLen, gList, δof, List.getElem?_cons_zero, List.getElem?_cons_succ, List.getElem?_nil, List.set_cons_zero, List.set_cons_succ, List.map_cons, List.map_nil, List.length_cons, List.length_nil, List.replicate_succ, List.replicate_zero, List.cons_append, List.nil_append, Option.bind_some, Option.bind_none, List.all_cons, List.all_nil, List.append_nil, Nat.reduceAdd, Nat.reduceSub, true_and, and_true, Bool.and_true, Bool.true_and]
      rw [List.filter_cons_of_pos (by simpa using e)] at h
      refine ⟨by rw [List.length_map]; omega, ?_⟩
      have z := firsts_of_c (K := K) (n := n) (ps := ps) (xs := xs) (e2 := e2) (P := P) ks (acc ++ [k]) (by rw [List.length_append, List.length_cons, List.length_nil]; omega) (by rw [List.append_assoc]; exact h)
      rw [List.map_append] at z
      rw [hN]
      exact z
    · simp only [decide_eq_false e, dSeq, dIfS, dT, dTn, dTa, dTo, dOp, dVar, dC, dFz_eq, dCB, dCons, dNil, dCall, dCallB, dMeth, dMethB, dSet, dApp, dExt, dRet, dRetM, dNx, dDrop, dNeg, dAnd, dOr, dNot, dIf, dCh, dCh3, dU, dTup, dLst, dFld, dIsi, dIl, dIe, dIr1, dIr2, dIv1, dgN, dgT, putAll, dFor, dPar2, dPar3, dSetT, dLc, dYes, dSl, dNo, dSome, dRev, dNev, dSset, dCount, dIndex, dLrg1, dLrg2, dTwo, un_non, un_int, un_bl, un_str, un_lst, un_tup, un_obj, un_dct, un_scr, un_olst, un_oll, un_oobj, un_mv, un_m, un_p, pl_non, pl_int, pl_bl, pl_str, pl_lst, pl_tup, pl_obj, pl_dct, pl_scr, pl_m, pl_p, fzm_non, fzm_int, fzm_bl, fzm_lst, fzm_tup, fzm_obj, fzm_scr, fzm_olst, fzm_oll, fzm_oobj, fzm_m, frz_non, frz_int, frz_bl, frz_str, frz_lst, frz_tup, frz_obj, frz_dct, frz_scr, frz_olst, frz_oll, frz_m, fz_no, fz_tr, see_no, see_tr, asB_bl, asI_int, asgD_non, asgD_int, asgD_bl, asgD_lst, asgD_tup, asgD_obj, asgD_mv, asgD_m, it_lst, it_olst, it_scr, li_lst, li_olst, pit_lst, pit_scr, sz_lst, sz_olst, sz_oll, sz_scr, sz_tup, ad_int, ad_ll, ad_oo, ad_lo, ad_ol, mu_int, mu_l, mu_o, gI_int, gI0_int, gI2_int, ii_eqv, co_int, co_bl, co_non, co_row, co_rowO, co_nil, co_nilO, co_ps, co_p, co_p2, co_rows, ev_ll, ev_ol, ev_lo, ev_oo, ev_ln, ev_lno, ev_on, ev_ono, in_ps, in_row, gEq, gNe, gIn, gNotIn, g1, g2, gLen, gList, δof, List.getElem?_cons_zero, List.getElem?_cons_succ, List.getElem?_nil, List.set_cons_zero, List.set_cons_succ, List.map_cons, List.map_nil, List.length_cons, List.length_nil, List.replicate_succ, List.replicate_zero, List.cons_append, List.nil_append, Option.bind_some, Option.bind_none, List.all_cons, List.all_nil, List.append_nil, Nat.reduceAdd, Nat.reduceSub, true_and, and_true, Bool.and_true, Bool.true_and]
      rw [List.filter_cons_of_neg (by simpa using e)] at h
      rw [hN]
      exact firsts_of_c (K := K) (n := n) (ps := ps) (xs := xs) (e2 := e2) (P := P) ks acc (by omega) h
theorem uni_len : ∀ xs : List Int, (uni xs).length ≤ xs.length
  | [] => Nat.le_refl _
  | x :: xs => by
    have z : ∀ (k : Int) (ys : List Int), (ins k ys).length ≤ ys.length + 1 := fun k ys => by
      induction ys with
      | nil => exact Nat.le_refl _
      | cons y ys ih =>
        unfold ins
        split
        · exact Nat.le_refl _
        · split
          · exact Nat.le_succ _
          · exact Nat.succ_le_succ ih
    have := z x (uni xs)
    have := uni_len xs
    show (ins x (uni xs)).length ≤ xs.length + 1
    omega
theorem rd_firsts_of {K : PySem.W.Frag} : ∀ ds Q, G_firsts_of K ds Q → T_firsts_of K { nx := fun _ => Q .non, rt := Q } (δof N_firsts_of.length ds) := by
  rintro _ Q ⟨n, ps, xs, rfl, hl, h⟩
  simp only [T_firsts_of, mK, rD, dSeq, dIfS, dT, dTn, dTa, dTo, dOp, dVar, dC, dFz_eq, dCB, dCons, dNil, dCall, dCallB, dMeth, dMethB, dSet, dApp, dExt, dRet, dRetM, dNx, dDrop, dNeg, dAnd, dOr, dNot, dIf, dCh, dCh3, dU, dTup, dLst, dFld, dIsi, dIl, dIe, dIr1, dIr2, dIv1, dgN, dgT, putAll, dFor, dPar2, dPar3, dSetT, dLc, dYes, dSl, dNo, dSome, dRev, dNev, dSset, dCount, dIndex, dLrg1, dLrg2, dTwo, un_non, un_int, un_bl, un_str, un_lst, un_tup, un_obj, un_dct, un_scr, un_olst, un_oll, un_oobj, un_mv, un_m, un_p, pl_non, pl_int, pl_bl, pl_str, pl_lst, pl_tup, pl_obj, pl_dct, pl_scr, pl_m, pl_p, fzm_non, fzm_int, fzm_bl, fzm_lst, fzm_tup, fzm_obj, fzm_scr, fzm_olst, fzm_oll, fzm_oobj, fzm_m, frz_non, frz_int, frz_bl, frz_str, frz_lst, frz_tup, frz_obj, frz_dct, frz_scr, frz_olst, frz_oll, frz_m, fz_no, fz_tr, see_no, see_tr, asB_bl, asI_int, asgD_non, asgD_int, asgD_bl, asgD_lst, asgD_tup, asgD_obj, asgD_mv, asgD_m, it_lst, it_olst, it_scr, li_lst, li_olst, pit_lst, pit_scr, sz_lst, sz_olst, sz_oll, sz_scr, sz_tup, ad_int, ad_ll, ad_oo, ad_lo, ad_ol, mu_int, mu_l, mu_o, gI_int, gI0_int, gI2_int, ii_eqv, co_int, co_bl, co_non, co_row, co_rowO, co_nil, co_nilO, co_ps, co_p, co_p2, co_rows, ev_ll, ev_ol, ev_lo, ev_oo, ev_ln, ev_lno, ev_on, ev_ono, in_ps, in_row, gEq, gNe, gIn, gNotIn, g1, g2, gLen, gList, δof, List.getElem?_cons_zero, List.getElem?_cons_succ, List.getElem?_nil, List.set_cons_zero, List.set_cons_succ, List.map_cons, List.map_nil, List.length_cons, List.length_nil, List.replicate_succ, List.replicate_zero, List.cons_append, List.nil_append, Option.bind_some, Option.bind_none, List.all_cons, List.all_nil, List.append_nil, Nat.reduceAdd, Nat.reduceSub, true_and, and_true, Bool.and_true, Bool.true_and, ints_lst]
  refine ⟨hl, fun ys up mem => ?_⟩
  have e : ys = uni xs := up_eq up up_uni fun k => by rw [mem, mem_uni]
  subst e
  exact firsts_of_c (K := K) (n := n) (ps := ps) (xs := xs) (uni xs) [] (by have := uni_len xs; rw [List.length_nil]; omega) h
def G_firsts (K : PySem.W.Frag) : GD := fun ds P => ∃ n ps xs, ds = [mK K n ps, rD xs] ∧ Kinds n xs ∧ xs.length ≤ 1000 ∧ P (.mv (.olst ((fst (mnd ps) xs).map .int)))
/-! ### firsts -/
abbrev N_firsts : List Str := ["minds", "row"]
def T_firsts (K : PySem.W.Frag) : DS := (dSeq (dDrop (dCall (G_check_row K) (dCons (dVar 0) (dCons (dVar 1) dNil))))
  (dRet (dCall (G_firsts_of K) (dCons (dVar 0) (dCons (dVar 1) dNil)))))
theorem rd_firsts {K : PySem.W.Frag} : ∀ ds Q, G_firsts K ds Q → T_firsts K { nx := fun _ => Q .non, rt := Q } (δof N_firsts.length ds) := by
  rintro _ Q ⟨n, ps, xs, rfl, hx, hl, h⟩
  simp only [T_firsts, mK, rD, dSeq, dIfS, dT, dTn, dTa, dTo, dOp, dVar, dC, dFz_eq, dCB, dCons, dNil, dCall, dCallB, dMeth, dMethB, dSet, dApp, dExt, dRet, dRetM, dNx, dDrop, dNeg, dAnd, dOr, dNot, dIf, dCh, dCh3, dU, dTup, dLst, dFld, dIsi, dIl, dIe, dIr1, dIr2, dIv1, dgN, dgT, putAll, dFor, dPar2, dPar3, dSetT, dLc, dYes, dSl, dNo, dSome, dRev, dNev, dSset, dCount, dIndex, dLrg1, dLrg2, dTwo, un_non, un_int, un_bl, un_str, un_lst, un_tup, un_obj, un_dct, un_scr, un_olst, un_oll, un_oobj, un_mv, un_m, un_p, pl_non, pl_int, pl_bl, pl_str, pl_lst, pl_tup, pl_obj, pl_dct, pl_scr, pl_m, pl_p, fzm_non, fzm_int, fzm_bl, fzm_lst, fzm_tup, fzm_obj, fzm_scr, fzm_olst, fzm_oll, fzm_oobj, fzm_m, frz_non, frz_int, frz_bl, frz_str, frz_lst, frz_tup, frz_obj, frz_dct, frz_scr, frz_olst, frz_oll, frz_m, fz_no, fz_tr, see_no, see_tr, asB_bl, asI_int, asgD_non, asgD_int, asgD_bl, asgD_lst, asgD_tup, asgD_obj, asgD_mv, asgD_m, it_lst, it_olst, it_scr, li_lst, li_olst, pit_lst, pit_scr, sz_lst, sz_olst, sz_oll, sz_scr, sz_tup, ad_int, ad_ll, ad_oo, ad_lo, ad_ol, mu_int, mu_l, mu_o, gI_int, gI0_int, gI2_int, ii_eqv, co_int, co_bl, co_non, co_row, co_rowO, co_nil, co_nilO, co_ps, co_p, co_p2, co_rows, ev_ll, ev_ol, ev_lo, ev_oo, ev_ln, ev_lno, ev_on, ev_ono, in_ps, in_row, gEq, gNe, gIn, gNotIn, g1, g2, gLen, gList, δof, List.getElem?_cons_zero, List.getElem?_cons_succ, List.getElem?_nil, List.set_cons_zero, List.set_cons_succ, List.map_cons, List.map_nil, List.length_cons, List.length_nil, List.replicate_succ, List.replicate_zero, List.cons_append, List.nil_append, Option.bind_some, Option.bind_none, List.all_cons, List.all_nil, List.append_nil, Nat.reduceAdd, Nat.reduceSub, true_and, and_true, Bool.and_true, Bool.true_and]
  exact ⟨n, ps, xs, rfl, hx, hl, n, ps, xs, rfl, hl, h⟩
/-! ### Minds's way in -/
abbrev N_Minds_init : List Str := ["self", "kinds", "pairs", "pair"]
def T_Minds_init_0 (K : PySem.W.Frag) : DT := (dTo (dTn (dT (dCall (G_is_number K) (dCons (dVar 1) dNil)))) (dTo (dT (dOp gLt (dVar 1) (dC (.int 1)))) (dTn (dT (dIsi K (.type "list") (dVar 2))))))
theorem rd_Minds_init_0 {K : PySem.W.Frag} {n : Int} {ps : List (Int × Int)} (hn : 1 ≤ n) : T_Minds_init_0 K (DV.no :: δof (N_Minds_init.length - 1) [.int n, .lst (ps.map pD)]) fun b => b = false := by
  simp only [T_Minds_init_0, dSeq, dIfS, dT, dTn, dTa, dTo, dOp, dVar, dC, dFz_eq, dCB, dCons, dNil, dCall, dCallB, dMeth, dMethB, dSet, dApp, dExt, dRet, dRetM, dNx, dDrop, dNeg, dAnd, dOr, dNot, dIf, dCh, dCh3, dU, dTup, dLst, dFld, dIsi, dIl, dIe, dIr1, dIr2, dIv1, dgN, dgT, putAll, dFor, dPar2, dPar3, dSetT, dLc, dYes, dSl, dNo, dSome, dRev, dNev, dSset, dCount, dIndex, dLrg1, dLrg2, dTwo, un_non, un_int, un_bl, un_str, un_lst, un_tup, un_obj, un_dct, un_scr, un_olst, un_oll, un_oobj, un_mv, un_m, un_p, pl_non, pl_int, pl_bl, pl_str, pl_lst, pl_tup, pl_obj, pl_dct, pl_scr, pl_m, pl_p, fzm_non, fzm_int, fzm_bl, fzm_lst, fzm_tup, fzm_obj, fzm_scr, fzm_olst, fzm_oll, fzm_oobj, fzm_m, frz_non, frz_int, frz_bl, frz_str, frz_lst, frz_tup, frz_obj, frz_dct, frz_scr, frz_olst, frz_oll, frz_m, fz_no, fz_tr, see_no, see_tr, asB_bl, asI_int, asgD_non, asgD_int, asgD_bl, asgD_lst, asgD_tup, asgD_obj, asgD_mv, asgD_m, it_lst, it_olst, it_scr, li_lst, li_olst, pit_lst, pit_scr, sz_lst, sz_olst, sz_oll, sz_scr, sz_tup, ad_int, ad_ll, ad_oo, ad_lo, ad_ol, mu_int, mu_l, mu_o, gI_int, gI0_int, gI2_int, ii_eqv, co_int, co_bl, co_non, co_row, co_rowO, co_nil, co_nilO, co_ps, co_p, co_p2, co_rows, ev_ll, ev_ol, ev_lo, ev_oo, ev_ln, ev_lno, ev_on, ev_ono, in_ps, in_row, gEq, gNe, gIn, gNotIn, g1, g2, gLen, gList, δof, List.getElem?_cons_zero, List.getElem?_cons_succ, List.getElem?_nil, List.set_cons_zero, List.set_cons_succ, List.map_cons, List.map_nil, List.length_cons, List.length_nil, List.replicate_succ, List.replicate_zero, List.cons_append, List.nil_append, Option.bind_some, Option.bind_none, List.all_cons, List.all_nil, List.append_nil, Nat.reduceAdd, Nat.reduceSub, true_and, and_true, Bool.and_true, Bool.true_and]
  refine ⟨n, rfl, ?_⟩
  simp only [dSeq, dIfS, dT, dTn, dTa, dTo, dOp, dVar, dC, dFz_eq, dCB, dCons, dNil, dCall, dCallB, dMeth, dMethB, dSet, dApp, dExt, dRet, dRetM, dNx, dDrop, dNeg, dAnd, dOr, dNot, dIf, dCh, dCh3, dU, dTup, dLst, dFld, dIsi, dIl, dIe, dIr1, dIr2, dIv1, dgN, dgT, putAll, dFor, dPar2, dPar3, dSetT, dLc, dYes, dSl, dNo, dSome, dRev, dNev, dSset, dCount, dIndex, dLrg1, dLrg2, dTwo, un_non, un_int, un_bl, un_str, un_lst, un_tup, un_obj, un_dct, un_scr, un_olst, un_oll, un_oobj, un_mv, un_m, un_p, pl_non, pl_int, pl_bl, pl_str, pl_lst, pl_tup, pl_obj, pl_dct, pl_scr, pl_m, pl_p, fzm_non, fzm_int, fzm_bl, fzm_lst, fzm_tup, fzm_obj, fzm_scr, fzm_olst, fzm_oll, fzm_oobj, fzm_m, frz_non, frz_int, frz_bl, frz_str, frz_lst, frz_tup, frz_obj, frz_dct, frz_scr, frz_olst, frz_oll, frz_m, fz_no, fz_tr, see_no, see_tr, asB_bl, asI_int, asgD_non, asgD_int, asgD_bl, asgD_lst, asgD_tup, asgD_obj, asgD_mv, asgD_m, it_lst, it_olst, it_scr, li_lst, li_olst, pit_lst, pit_scr, sz_lst, sz_olst, sz_oll, sz_scr, sz_tup, ad_int, ad_ll, ad_oo, ad_lo, ad_ol, mu_int, mu_l, mu_o, gI_int, gI0_int, gI2_int, ii_eqv, co_int, co_bl, co_non, co_row, co_rowO, co_nil, co_nilO, co_ps, co_p, co_p2, co_rows, ev_ll, ev_ol, ev_lo, ev_oo, ev_ln, ev_lno, ev_on, ev_ono, in_ps, in_row, gEq, gNe, gIn, gNotIn, g1, g2, gLen, gList, δof, List.getElem?_cons_zero, List.getElem?_cons_succ, List.getElem?_nil, List.set_cons_zero, List.set_cons_succ, List.map_cons, List.map_nil, List.length_cons, List.length_nil, List.replicate_succ, List.replicate_zero, List.cons_append, List.nil_append, Option.bind_some, Option.bind_none, List.all_cons, List.all_nil, List.append_nil, Nat.reduceAdd, Nat.reduceSub, true_and, and_true, Bool.and_true, Bool.true_and, Bool.not_true]
  rw [decide_eq_false (by omega)]
  exact ⟨true, rfl, rfl⟩
def T_Minds_init_c1 (K : PySem.W.Frag) : DE := (dFz (dCall (G_is_pair K) (dCons (dVar 3) (dCons (dVar 1) dNil))))
def T_Minds_init_1 (K : PySem.W.Frag) : DT := (dTo (dTn (dT (dCB gAll (dCons (dLc 3 (dIl (dVar 2)) dYes (T_Minds_init_c1 K)) dNil)))) (dT (dOp gLt (dLset (dVar 2)) (dCB gLen (dCons (dVar 2) dNil)))))
theorem minds_init_c {K : PySem.W.Frag} {n : Int} {row : D} {P : D → Prop} {e0 e3 : DV} : ∀ (ps : List (Int × Int)) (acc : List D), (∀ q ∈ ps, 0 ≤ q.1 ∧ q.1 < q.2 ∧ q.2 < n) → acc.length + ps.length ≤ 1000 → P (.mv (.olst (acc ++ ps.map fun _ => .bl true))) → compGo 3 dYes (T_Minds_init_c1 K) P (ps.map pD) acc [e0, .tr (.int n), .tr row, e3]
  | [], acc, _, _, h => by
    rw [List.map_nil, List.append_nil] at h
    exact h
  | q :: ps, acc, hq, hl, h => by
    rw [List.length_cons] at hl
    refine compGo_op fun N hN => ?_
    simp only [T_Minds_init_c1, dSeq, dIfS, dT, dTn, dTa, dTo, dOp, dVar, dC, dFz_eq, dCB, dCons, dNil, dCall, dCallB, dMeth, dMethB, dSet, dApp, dExt, dRet, dRetM, dNx, dDrop, dNeg, dAnd, dOr, dNot, dIf, dCh, dCh3, dU, dTup, dLst, dFld, dIsi, dIl, dIe, dIr1, dIr2, dIv1, dgN, dgT, putAll, dFor, dPar2, dPar3, dSetT, dLc, dYes, dSl, dNo, dSome, dRev, dNev, dSset, dCount, dIndex, dLrg1, dLrg2, dTwo, un_non, un_int, un_bl, un_str, un_lst, un_tup, un_obj, un_dct, un_scr, un_olst, un_oll, un_oobj, un_mv, un_m, un_p, pl_non, pl_int, pl_bl, pl_str, pl_lst, pl_tup, pl_obj, pl_dct, pl_scr, pl_m, pl_p, fzm_non, fzm_int, fzm_bl, fzm_lst, fzm_tup, fzm_obj, fzm_scr, fzm_olst, fzm_oll, fzm_oobj, fzm_m, frz_non, frz_int, frz_bl, frz_str, frz_lst, frz_tup, frz_obj, frz_dct, frz_scr, frz_olst, frz_oll, frz_m, fz_no, fz_tr, see_no, see_tr, asB_bl, asI_int, asgD_non, asgD_int, asgD_bl, asgD_lst, asgD_tup, asgD_obj, asgD_mv, asgD_m, it_lst, it_olst, it_scr, li_lst, li_olst, pit_lst, pit_scr, sz_lst, sz_olst, sz_oll, sz_scr, sz_tup, ad_int, ad_ll, ad_oo, ad_lo, ad_ol, mu_int, mu_l, mu_o, gI_int, gI0_int, gI2_int, ii_eqv, co_int, co_bl, co_non, co_row, co_rowO, co_nil, co_nilO, co_ps, co_p, co_p2, co_rows, ev_ll, ev_ol, ev_lo, ev_oo, ev_ln, ev_lno, ev_on, ev_ono, in_ps, in_row, gEq, gNe, gIn, gNotIn, g1, g2, gLen, gList, δof, List.getElem?_cons_zero, List.getElem?_cons_succ, List.getElem?_nil, List.set_cons_zero, List.set_cons_succ, List.map_cons, List.map_nil, List.length_cons, List.length_nil, List.replicate_succ, List.replicate_zero, List.cons_append, List.nil_append, Option.bind_some, Option.bind_none, List.all_cons, List.all_nil, List.append_nil, Nat.reduceAdd, Nat.reduceSub, true_and, and_true, Bool.and_true, Bool.true_and]
    refine ⟨q, n, rfl, hq q List.mem_cons_self, ?_⟩
    simp only [dSeq, dIfS, dT, dTn, dTa, dTo, dOp, dVar, dC, dFz_eq, dCB, dCons, dNil, dCall, dCallB, dMeth, dMethB, dSet, dApp, dExt, dRet, dRetM, dNx, dDrop, dNeg, dAnd, dOr, dNot, dIf, dCh, dCh3, dU, dTup, dLst, dFld, dIsi, dIl, dIe, dIr1, dIr2, dIv1, dgN, dgT, putAll, dFor, dPar2, dPar3, dSetT, dLc, dYes, dSl, dNo, dSome, dRev, dNev, dSset, dCount, dIndex, dLrg1, dLrg2, dTwo, un_non, un_int, un_bl, un_str, un_lst, un_tup, un_obj, un_dct, un_scr, un_olst, un_oll, un_oobj, un_mv, un_m, un_p, pl_non, pl_int, pl_bl, pl_str, pl_lst, pl_tup, pl_obj, pl_dct, pl_scr, pl_m, pl_p, fzm_non, fzm_int, fzm_bl, fzm_lst, fzm_tup, fzm_obj, fzm_scr, fzm_olst, fzm_oll, fzm_oobj, fzm_m, frz_non, frz_int, frz_bl, frz_str, frz_lst, frz_tup, frz_obj, frz_dct, frz_scr, frz_olst, frz_oll, frz_m, fz_no, fz_tr, see_no, see_tr, asB_bl, asI_int, asgD_non, asgD_int, asgD_bl, asgD_lst, asgD_tup, asgD_obj, asgD_mv, asgD_m, it_lst, it_olst, it_scr, li_lst, li_olst, pit_lst, pit_scr, sz_lst, sz_olst, sz_oll, sz_scr, sz_tup, ad_int, ad_ll, ad_oo, ad_lo, ad_ol, mu_int, mu_l, mu_o, gI_int, gI0_int, gI2_int, ii_eqv, co_int, co_bl, co_non, co_row, co_rowO, co_nil, co_nilO, co_ps, co_p, co_p2, co_rows, ev_ll, ev_ol, ev_lo, ev_oo, ev_ln, ev_lno, ev_on, ev_ono, in_ps, in_row, gEq, gNe, gIn, gNotIn, g1, g2, gLen, gList, δof, List.getElem?_cons_zero, List.getElem?_cons_succ, List.getElem?_nil, List.set_cons_zero, List.set_cons_succ, List.map_cons, List.map_nil, List.length_cons, List.length_nil, List.replicate_succ, List.replicate_zero, List.cons_append, List.nil_append, Option.bind_some, Option.bind_none, List.all_cons, List.all_nil, List.append_nil, Nat.reduceAdd, Nat.reduceSub, true_and, and_true, Bool.and_true, Bool.true_and]
    refine ⟨by omega, ?_⟩
    rw [hN]
    refine minds_init_c (K := K) ps _ (fun y hy => hq y (List.mem_cons_of_mem _ hy)) (by rw [List.length_append, List.length_cons, List.length_nil]; omega) ?_
    rw [List.append_assoc]
    exact h
theorem rd_Minds_init_1 {K : PySem.W.Frag} {n : Int} {ps : List (Int × Int)} (hp : PairsOk n ps) : T_Minds_init_1 K (DV.no :: δof (N_Minds_init.length - 1) [.int n, .lst (ps.map pD)]) fun b => b = false := by
  simp only [T_Minds_init_1, dSeq, dIfS, dT, dTn, dTa, dTo, dOp, dVar, dC, dFz_eq, dCB, dCons, dNil, dCall, dCallB, dMeth, dMethB, dSet, dApp, dExt, dRet, dRetM, dNx, dDrop, dNeg, dAnd, dOr, dNot, dIf, dCh, dCh3, dU, dTup, dLst, dFld, dIsi, dIl, dIe, dIr1, dIr2, dIv1, dgN, dgT, putAll, dFor, dPar2, dPar3, dSetT, dLc, dYes, dSl, dNo, dSome, dRev, dNev, dSset, dCount, dIndex, dLrg1, dLrg2, dTwo, un_non, un_int, un_bl, un_str, un_lst, un_tup, un_obj, un_dct, un_scr, un_olst, un_oll, un_oobj, un_mv, un_m, un_p, pl_non, pl_int, pl_bl, pl_str, pl_lst, pl_tup, pl_obj, pl_dct, pl_scr, pl_m, pl_p, fzm_non, fzm_int, fzm_bl, fzm_lst, fzm_tup, fzm_obj, fzm_scr, fzm_olst, fzm_oll, fzm_oobj, fzm_m, frz_non, frz_int, frz_bl, frz_str, frz_lst, frz_tup, frz_obj, frz_dct, frz_scr, frz_olst, frz_oll, frz_m, fz_no, fz_tr, see_no, see_tr, asB_bl, asI_int, asgD_non, asgD_int, asgD_bl, asgD_lst, asgD_tup, asgD_obj, asgD_mv, asgD_m, it_lst, it_olst, it_scr, li_lst, li_olst, pit_lst, pit_scr, sz_lst, sz_olst, sz_oll, sz_scr, sz_tup, ad_int, ad_ll, ad_oo, ad_lo, ad_ol, mu_int, mu_l, mu_o, gI_int, gI0_int, gI2_int, ii_eqv, co_int, co_bl, co_non, co_row, co_rowO, co_nil, co_nilO, co_ps, co_p, co_p2, co_rows, ev_ll, ev_ol, ev_lo, ev_oo, ev_ln, ev_lno, ev_on, ev_ono, in_ps, in_row, gEq, gNe, gIn, gNotIn, g1, g2, gLen, gList, δof, List.getElem?_cons_zero, List.getElem?_cons_succ, List.getElem?_nil, List.set_cons_zero, List.set_cons_succ, List.map_cons, List.map_nil, List.length_cons, List.length_nil, List.replicate_succ, List.replicate_zero, List.cons_append, List.nil_append, Option.bind_some, Option.bind_none, List.all_cons, List.all_nil, List.append_nil, Nat.reduceAdd, Nat.reduceSub, true_and, and_true, Bool.and_true, Bool.true_and]
  refine minds_init_c (K := K) ps [] hp.2.2 (by have := hp.2.1; simp; omega) ?_
  simp only [dSeq, dIfS, dT, dTn, dTa, dTo, dOp, dVar, dC, dFz_eq, dCB, dCons, dNil, dCall, dCallB, dMeth, dMethB, dSet, dApp, dExt, dRet, dRetM, dNx, dDrop, dNeg, dAnd, dOr, dNot, dIf, dCh, dCh3, dU, dTup, dLst, dFld, dIsi, dIl, dIe, dIr1, dIr2, dIv1, dgN, dgT, putAll, dFor, dPar2, dPar3, dSetT, dLc, dYes, dSl, dNo, dSome, dRev, dNev, dSset, dCount, dIndex, dLrg1, dLrg2, dTwo, un_non, un_int, un_bl, un_str, un_lst, un_tup, un_obj, un_dct, un_scr, un_olst, un_oll, un_oobj, un_mv, un_m, un_p, pl_non, pl_int, pl_bl, pl_str, pl_lst, pl_tup, pl_obj, pl_dct, pl_scr, pl_m, pl_p, fzm_non, fzm_int, fzm_bl, fzm_lst, fzm_tup, fzm_obj, fzm_scr, fzm_olst, fzm_oll, fzm_oobj, fzm_m, frz_non, frz_int, frz_bl, frz_str, frz_lst, frz_tup, frz_obj, frz_dct, frz_scr, frz_olst, frz_oll, frz_m, fz_no, fz_tr, see_no, see_tr, asB_bl, asI_int, asgD_non, asgD_int, asgD_bl, asgD_lst, asgD_tup, asgD_obj, asgD_mv, asgD_m, it_lst, it_olst, it_scr, li_lst, li_olst, pit_lst, pit_scr, sz_lst, sz_olst, sz_oll, sz_scr, sz_tup, ad_int, ad_ll, ad_oo, ad_lo, ad_ol, mu_int, mu_l, mu_o, gI_int, gI0_int, gI2_int, ii_eqv, co_int, co_bl, co_non, co_row, co_rowO, co_nil, co_nilO, co_ps, co_p, co_p2, co_rows, ev_ll, ev_ol, ev_lo, ev_oo, ev_ln, ev_lno, ev_on, ev_ono, in_ps, in_row, gEq, gNe, gIn, gNotIn, g1, g2, gLen, gList, δof, List.getElem?_cons_zero, List.getElem?_cons_succ, List.getElem?_nil, List.set_cons_zero, List.set_cons_succ, List.map_cons, List.map_nil, List.length_cons, List.length_nil, List.replicate_succ, List.replicate_zero, List.cons_append, List.nil_append, Option.bind_some, Option.bind_none, List.all_cons, List.all_nil, List.append_nil, Nat.reduceAdd, Nat.reduceSub, true_and, and_true, Bool.and_true, Bool.true_and]
  refine ga_map ?_
  have z : (ps.all fun _ => true) = true := by simp
  rw [z]
  simp only [dSeq, dIfS, dT, dTn, dTa, dTo, dOp, dVar, dC, dFz_eq, dCB, dCons, dNil, dCall, dCallB, dMeth, dMethB, dSet, dApp, dExt, dRet, dRetM, dNx, dDrop, dNeg, dAnd, dOr, dNot, dIf, dCh, dCh3, dU, dTup, dLst, dFld, dIsi, dIl, dIe, dIr1, dIr2, dIv1, dgN, dgT, putAll, dFor, dPar2, dPar3, dSetT, dLc, dYes, dSl, dNo, dSome, dRev, dNev, dSset, dCount, dIndex, dLrg1, dLrg2, dTwo, un_non, un_int, un_bl, un_str, un_lst, un_tup, un_obj, un_dct, un_scr, un_olst, un_oll, un_oobj, un_mv, un_m, un_p, pl_non, pl_int, pl_bl, pl_str, pl_lst, pl_tup, pl_obj, pl_dct, pl_scr, pl_m, pl_p, fzm_non, fzm_int, fzm_bl, fzm_lst, fzm_tup, fzm_obj, fzm_scr, fzm_olst, fzm_oll, fzm_oobj, fzm_m, frz_non, frz_int, frz_bl, frz_str, frz_lst, frz_tup, frz_obj, frz_dct, frz_scr, frz_olst, frz_oll, frz_m, fz_no, fz_tr, see_no, see_tr, asB_bl, asI_int, asgD_non, asgD_int, asgD_bl, asgD_lst, asgD_tup, asgD_obj, asgD_mv, asgD_m, it_lst, it_olst, it_scr, li_lst, li_olst, pit_lst, pit_scr, sz_lst, sz_olst, sz_oll, sz_scr, sz_tup, ad_int, ad_ll, ad_oo, ad_lo, ad_ol, mu_int, mu_l, mu_o, gI_int, gI0_int, gI2_int, ii_eqv, co_int, co_bl, co_non, co_row, co_rowO, co_nil, co_nilO, co_ps, co_p, co_p2, co_rows, ev_ll, ev_ol, ev_lo, ev_oo, ev_ln, ev_lno, ev_on, ev_ono, in_ps, in_row, gEq, gNe, gIn, gNotIn, g1, g2, gLen, gList, δof, List.getElem?_cons_zero, List.getElem?_cons_succ, List.getElem?_nil, List.set_cons_zero, List.set_cons_succ, List.map_cons, List.map_nil, List.length_cons, List.length_nil, List.replicate_succ, List.replicate_zero, List.cons_append, List.nil_append, Option.bind_some, Option.bind_none, List.all_cons, List.all_nil, List.append_nil, Nat.reduceAdd, Nat.reduceSub, true_and, and_true, Bool.and_true, Bool.true_and, dLset, Bool.not_true]
  refine ⟨ps, rfl, hp.2.1, hp.1, ?_⟩
  simp only [dSeq, dIfS, dT, dTn, dTa, dTo, dOp, dVar, dC, dFz_eq, dCB, dCons, dNil, dCall, dCallB, dMeth, dMethB, dSet, dApp, dExt, dRet, dRetM, dNx, dDrop, dNeg, dAnd, dOr, dNot, dIf, dCh, dCh3, dU, dTup, dLst, dFld, dIsi, dIl, dIe, dIr1, dIr2, dIv1, dgN, dgT, putAll, dFor, dPar2, dPar3, dSetT, dLc, dYes, dSl, dNo, dSome, dRev, dNev, dSset, dCount, dIndex, dLrg1, dLrg2, dTwo, un_non, un_int, un_bl, un_str, un_lst, un_tup, un_obj, un_dct, un_scr, un_olst, un_oll, un_oobj, un_mv, un_m, un_p, pl_non, pl_int, pl_bl, pl_str, pl_lst, pl_tup, pl_obj, pl_dct, pl_scr, pl_m, pl_p, fzm_non, fzm_int, fzm_bl, fzm_lst, fzm_tup, fzm_obj, fzm_scr, fzm_olst, fzm_oll, fzm_oobj, fzm_m, frz_non, frz_int, frz_bl, frz_str, frz_lst, frz_tup, frz_obj, frz_dct, frz_scr, frz_olst, frz_oll, frz_m, fz_no, fz_tr, see_no, see_tr, asB_bl, asI_int, asgD_non, asgD_int, asgD_bl, asgD_lst, asgD_tup, asgD_obj, asgD_mv, asgD_m, it_lst, it_olst, it_scr, li_lst, li_olst, pit_lst, pit_scr, sz_lst, sz_olst, sz_oll, sz_scr, sz_tup, ad_int, ad_ll, ad_oo, ad_lo, ad_ol, mu_int, mu_l, mu_o, gI_int, gI0_int, gI2_int, ii_eqv, co_int, co_bl, co_non, co_row, co_rowO, co_nil, co_nilO, co_ps, co_p, co_p2, co_rows, ev_ll, ev_ol, ev_lo, ev_oo, ev_ln, ev_lno, ev_on, ev_ono, in_ps, in_row, gEq, gNe, gIn, gNotIn, g1, g2, gLen, gList, δof, List.getElem?_cons_zero, List.getElem?_cons_succ, List.getElem?_nil, List.set_cons_zero, List.set_cons_succ, List.map_cons, List.map_nil, List.length_cons, List.length_nil, List.replicate_succ, List.replicate_zero, List.cons_append, List.nil_append, Option.bind_some, Option.bind_none, List.all_cons, List.all_nil, List.append_nil, Nat.reduceAdd, Nat.reduceSub, true_and, and_true, Bool.and_true, Bool.true_and, List.length_map]
  exact decide_eq_false (by omega)
def T_Minds_init_2 (K : PySem.W.Frag) : DE := (dVar 1)
theorem rd_Minds_init_2 {K : PySem.W.Frag} {n : Int} {ps : List (Int × Int)} : T_Minds_init_2 K (DV.no :: δof (N_Minds_init.length - 1) [.int n, .lst (ps.map pD)]) fun d => fldD d fun d => d = .int n := by
  simp only [T_Minds_init_2, dSeq, dIfS, dT, dTn, dTa, dTo, dOp, dVar, dC, dFz_eq, dCB, dCons, dNil, dCall, dCallB, dMeth, dMethB, dSet, dApp, dExt, dRet, dRetM, dNx, dDrop, dNeg, dAnd, dOr, dNot, dIf, dCh, dCh3, dU, dTup, dLst, dFld, dIsi, dIl, dIe, dIr1, dIr2, dIv1, dgN, dgT, putAll, dFor, dPar2, dPar3, dSetT, dLc, dYes, dSl, dNo, dSome, dRev, dNev, dSset, dCount, dIndex, dLrg1, dLrg2, dTwo, un_non, un_int, un_bl, un_str, un_lst, un_tup, un_obj, un_dct, un_scr, un_olst, un_oll, un_oobj, un_mv, un_m, un_p, pl_non, pl_int, pl_bl, pl_str, pl_lst, pl_tup, pl_obj, pl_dct, pl_scr, pl_m, pl_p, fzm_non, fzm_int, fzm_bl, fzm_lst, fzm_tup, fzm_obj, fzm_scr, fzm_olst, fzm_oll, fzm_oobj, fzm_m, frz_non, frz_int, frz_bl, frz_str, frz_lst, frz_tup, frz_obj, frz_dct, frz_scr, frz_olst, frz_oll, frz_m, fz_no, fz_tr, see_no, see_tr, asB_bl, asI_int, asgD_non, asgD_int, asgD_bl, asgD_lst, asgD_tup, asgD_obj, asgD_mv, asgD_m, it_lst, it_olst, it_scr, li_lst, li_olst, pit_lst, pit_scr, sz_lst, sz_olst, sz_oll, sz_scr, sz_tup, ad_int, ad_ll, ad_oo, ad_lo, ad_ol, mu_int, mu_l, mu_o, gI_int, gI0_int, gI2_int, ii_eqv, co_int, co_bl, co_non, co_row, co_rowO, co_nil, co_nilO, co_ps, co_p, co_p2, co_rows, ev_ll, ev_ol, ev_lo, ev_oo, ev_ln, ev_lno, ev_on, ev_ono, in_ps, in_row, gEq, gNe, gIn, gNotIn, g1, g2, gLen, gList, δof, List.getElem?_cons_zero, List.getElem?_cons_succ, List.getElem?_nil, List.set_cons_zero, List.set_cons_succ, List.map_cons, List.map_nil, List.length_cons, List.length_nil, List.replicate_succ, List.replicate_zero, List.cons_append, List.nil_append, Option.bind_some, Option.bind_none, List.all_cons, List.all_nil, List.append_nil, Nat.reduceAdd, Nat.reduceSub, true_and, and_true, Bool.and_true, Bool.true_and]
  exact ⟨rfl, rfl⟩
def T_Minds_init_3 (K : PySem.W.Frag) : DE := (dCB gList (dCons (dVar 2) dNil))
theorem rd_Minds_init_3 {K : PySem.W.Frag} {n : Int} {ps : List (Int × Int)} : T_Minds_init_3 K (DV.no :: δof (N_Minds_init.length - 1) [.int n, .lst (ps.map pD)]) fun d => fldD d fun d => d = .olst (ps.map pD) := by
  simp only [T_Minds_init_3, dSeq, dIfS, dT, dTn, dTa, dTo, dOp, dVar, dC, dFz_eq, dCB, dCons, dNil, dCall, dCallB, dMeth, dMethB, dSet, dApp, dExt, dRet, dRetM, dNx, dDrop, dNeg, dAnd, dOr, dNot, dIf, dCh, dCh3, dU, dTup, dLst, dFld, dIsi, dIl, dIe, dIr1, dIr2, dIv1, dgN, dgT, putAll, dFor, dPar2, dPar3, dSetT, dLc, dYes, dSl, dNo, dSome, dRev, dNev, dSset, dCount, dIndex, dLrg1, dLrg2, dTwo, un_non, un_int, un_bl, un_str, un_lst, un_tup, un_obj, un_dct, un_scr, un_olst, un_oll, un_oobj, un_mv, un_m, un_p, pl_non, pl_int, pl_bl, pl_str, pl_lst, pl_tup, pl_obj, pl_dct, pl_scr, pl_m, pl_p, fzm_non, fzm_int, fzm_bl, fzm_lst, fzm_tup, fzm_obj, fzm_scr, fzm_olst, fzm_oll, fzm_oobj, fzm_m, frz_non, frz_int, frz_bl, frz_str, frz_lst, frz_tup, frz_obj, frz_dct, frz_scr, frz_olst, frz_oll, frz_m, fz_no, fz_tr, see_no, see_tr, asB_bl, asI_int, asgD_non, asgD_int, asgD_bl, asgD_lst, asgD_tup, asgD_obj, asgD_mv, asgD_m, it_lst, it_olst, it_scr, li_lst, li_olst, pit_lst, pit_scr, sz_lst, sz_olst, sz_oll, sz_scr, sz_tup, ad_int, ad_ll, ad_oo, ad_lo, ad_ol, mu_int, mu_l, mu_o, gI_int, gI0_int, gI2_int, ii_eqv, co_int, co_bl, co_non, co_row, co_rowO, co_nil, co_nilO, co_ps, co_p, co_p2, co_rows, ev_ll, ev_ol, ev_lo, ev_oo, ev_ln, ev_lno, ev_on, ev_ono, in_ps, in_row, gEq, gNe, gIn, gNotIn, g1, g2, gLen, gList, δof, List.getElem?_cons_zero, List.getElem?_cons_succ, List.getElem?_nil, List.set_cons_zero, List.set_cons_succ, List.map_cons, List.map_nil, List.length_cons, List.length_nil, List.replicate_succ, List.replicate_zero, List.cons_append, List.nil_append, Option.bind_some, Option.bind_none, List.all_cons, List.all_nil, List.append_nil, Nat.reduceAdd, Nat.reduceSub, true_and, and_true, Bool.and_true, Bool.true_and]
  rfl
def T_Minds_init_5 (K : PySem.W.Frag) : DI := (dIl (dVar 2))
theorem rd_Minds_init_5 {K : PySem.W.Frag} {n : Int} {ps : List (Int × Int)} : T_Minds_init_5 K (DV.no :: δof (N_Minds_init.length - 1) [.int n, .lst (ps.map pD)]) fun ds => ds = ps.map pD := by
  simp only [T_Minds_init_5, dSeq, dIfS, dT, dTn, dTa, dTo, dOp, dVar, dC, dFz_eq, dCB, dCons, dNil, dCall, dCallB, dMeth, dMethB, dSet, dApp, dExt, dRet, dRetM, dNx, dDrop, dNeg, dAnd, dOr, dNot, dIf, dCh, dCh3, dU, dTup, dLst, dFld, dIsi, dIl, dIe, dIr1, dIr2, dIv1, dgN, dgT, putAll, dFor, dPar2, dPar3, dSetT, dLc, dYes, dSl, dNo, dSome, dRev, dNev, dSset, dCount, dIndex, dLrg1, dLrg2, dTwo, un_non, un_int, un_bl, un_str, un_lst, un_tup, un_obj, un_dct, un_scr, un_olst, un_oll, un_oobj, un_mv, un_m, un_p, pl_non, pl_int, pl_bl, pl_str, pl_lst, pl_tup, pl_obj, pl_dct, pl_scr, pl_m, pl_p, fzm_non, fzm_int, fzm_bl, fzm_lst, fzm_tup, fzm_obj, fzm_scr, fzm_olst, fzm_oll, fzm_oobj, fzm_m, frz_non, frz_int, frz_bl, frz_str, frz_lst, frz_tup, frz_obj, frz_dct, frz_scr, frz_olst, frz_oll, frz_m, fz_no, fz_tr, see_no, see_tr, asB_bl, asI_int, asgD_non, asgD_int, asgD_bl, asgD_lst, asgD_tup, asgD_obj, asgD_mv, asgD_m, it_lst, it_olst, it_scr, li_lst, li_olst, pit_lst, pit_scr, sz_lst, sz_olst, sz_oll, sz_scr, sz_tup, ad_int, ad_ll, ad_oo, ad_lo, ad_ol, mu_int, mu_l, mu_o, gI_int, gI0_int, gI2_int, ii_eqv, co_int, co_bl, co_non, co_row, co_rowO, co_nil, co_nilO, co_ps, co_p, co_p2, co_rows, ev_ll, ev_ol, ev_lo, ev_oo, ev_ln, ev_lno, ev_on, ev_ono, in_ps, in_row, gEq, gNe, gIn, gNotIn, g1, g2, gLen, gList, δof, List.getElem?_cons_zero, List.getElem?_cons_succ, List.getElem?_nil, List.set_cons_zero, List.set_cons_succ, List.map_cons, List.map_nil, List.length_cons, List.length_nil, List.replicate_succ, List.replicate_zero, List.cons_append, List.nil_append, Option.bind_some, Option.bind_none, List.all_cons, List.all_nil, List.append_nil, Nat.reduceAdd, Nat.reduceSub, true_and, and_true, Bool.and_true, Bool.true_and]
end J
/-! M1: rows, what may change places; plain -/
namespace J
theorem mnd_refl (ps : List (Int × Int)) (a : Int) : mnd ps a a = true := by simp [mnd]
theorem mnd_symm (ps : List (Int × Int)) (a b : Int) : mnd ps a b = mnd ps b a := by
  unfold mnd
  by_cases h : a = b
  · rw [h]
  · have h2 : ¬ b = a := fun e => h e.symm
    by_cases c : a < b
    · have d : ¬ b < a := by omega
      simp [h, h2, c, d]
    · have d : b < a := by omega
      simp [h, h2, c, d]
/-- reflexive, symmetric -/
structure Mi (m : Int → Int → Bool) : Prop where
  r : ∀ a, m a a = true
  s : ∀ a b, m a b = m b a
theorem mi_mnd (ps : List (Int × Int)) : Mi (mnd ps) := ⟨mnd_refl ps, mnd_symm ps⟩
/-- k stands behind A, none of which minds it -/
def Fs (m : Int → Int → Bool) (k : Int) (xs A B : List Int) : Prop := xs = A ++ k :: B ∧ ∀ a ∈ A, m a k = false
section
variable {m : Int → Int → Bool}
theorem Fs.ne (hm : Mi m) {k : Int} {xs A B : List Int} (h : Fs m k xs A B) : k ∉ A := fun e => by
  have := h.2 k e
  rw [hm.r] at this
  cases this
theorem pf_cases (hm : Mi m) (k : Int) : ∀ (xs : List Int) (i : Nat), (∃ A B, Fs m k xs A B ∧ pf m k xs i = ((i + A.length : Nat) : Int)) ∨ (pf m k xs i = -1 ∧ ∀ A B, ¬ Fs m k xs A B)
  | [], i => .inr ⟨rfl, fun A B h => by
    have := h.1
    simp at this⟩
  | x :: xs, i => by
    unfold pf
    by_cases e : x = k
    · rw [if_pos e]
      exact .inl ⟨[], xs, ⟨by rw [e]; rfl, fun a ha => by cases ha⟩, rfl⟩
    · rw [if_neg e]
      by_cases e2 : m x k = true
      · rw [if_pos e2]
        refine .inr ⟨rfl, fun A B h => ?_⟩
        obtain ⟨h1, h2⟩ := h
        cases A with
        | nil =>
          injection h1 with h1 _
          exact e h1
        | cons a A =>
          injection h1 with h1 _
          have := h2 a List.mem_cons_self
          rw [← h1, e2] at this
          cases this
      · rw [if_neg e2]
        have e3 : m x k = false := by simpa using e2
        rcases pf_cases hm k xs (i + 1) with ⟨A, B, h, q⟩ | ⟨q, h⟩
        · refine .inl ⟨x :: A, B, ⟨by rw [h.1]; rfl, fun a ha => ?_⟩, by rw [q, List.length_cons]; congr 1; omega⟩
          rcases List.mem_cons.mp ha with rfl | ha
          · exact e3
          · exact h.2 a ha
        · refine .inr ⟨q, fun A B hF => ?_⟩
          obtain ⟨h1, h2⟩ := hF
          cases A with
          | nil =>
            injection h1 with h1 _
            exact e h1
          | cons a A =>
            injection h1 with _ h1
            exact h A B ⟨h1, fun b hb => h2 b (List.mem_cons_of_mem _ hb)⟩
theorem pf_at (hm : Mi m) {k : Int} {xs A B : List Int} (h : Fs m k xs A B) : pf m k xs 0 = (A.length : Int) := by
  rcases pf_cases hm k xs 0 with ⟨A', B', h', q⟩ | ⟨_, q⟩
  · have e : A.length = A'.length := by
      have n1 := h.ne hm
      have n2 := h'.ne hm
      have e := h.1.symm.trans h'.1
      rcases Nat.lt_trichotomy A.length A'.length with c | c | c
      · exfalso
        have z : A'[A.length]? = some k := by
          have z := congrArg (fun l => l[A.length]?) e
          simp only [List.getElem?_append_right (Nat.le_refl _), Nat.sub_self, List.getElem?_cons_zero, List.getElem?_append_left c] at z
          exact z.symm
        exact n2 (List.mem_of_getElem? z)
      · exact c
      · exfalso
        have z : A[A'.length]? = some k := by
          have z := congrArg (fun l => l[A'.length]?) e
          simp only [List.getElem?_append_right (Nat.le_refl _), Nat.sub_self, List.getElem?_cons_zero, List.getElem?_append_left c] at z
          exact z
        exact n1 (List.mem_of_getElem? z)
    rw [q, e, Nat.zero_add]
  · exact absurd h (q A B)
/-- k may be done first -/
def Fi (m : Int → Int → Bool) (k : Int) (xs : List Int) : Prop := ∃ A B, Fs m k xs A B
theorem pf_ge (hm : Mi m) {k : Int} {xs : List Int} : 0 ≤ pf m k xs 0 ↔ Fi m k xs := by
  rcases pf_cases hm k xs 0 with ⟨A, B, h, q⟩ | ⟨q, h⟩
  · rw [q]
    exact ⟨fun _ => ⟨A, B, h⟩, fun _ => by omega⟩
  · rw [q]
    exact ⟨fun h => by omega, fun ⟨A, B, hf⟩ => absurd hf (h A B)⟩
theorem mem_fst (hm : Mi m) {k : Int} {xs : List Int} : k ∈ fst m xs ↔ Fi m k xs := by
  unfold fst
  rw [List.mem_filter, decide_eq_true_eq, pf_ge hm, mem_uni]
  constructor
  · exact fun h => h.2
  · rintro ⟨A, B, h⟩
    exact ⟨by rw [h.1]; simp, A, B, h⟩
theorem up_fst {xs : List Int} : (fst m xs).Pairwise (· < ·) := List.Pairwise.filter _ up_uni
theorem fi_head {k : Int} {xs : List Int} : Fi m k (k :: xs) := ⟨[], xs, rfl, fun a ha => by cases ha⟩
theorem fst_ne (hm : Mi m) {xs : List Int} (h : xs ≠ []) : fst m xs ≠ [] := by
  cases xs with
  | nil => exact absurd rfl h
  | cons x xs =>
    intro e
    have z := (mem_fst hm (k := x) (xs := x :: xs)).mpr fi_head
    rw [e] at z
    cases z
theorem Fs.erase {k : Int} {xs A B : List Int} (h : Fs m k xs A B) : xs.eraseIdx A.length = A ++ B := by
  rw [h.1, List.eraseIdx_append_of_length_le (Nat.le_refl _), Nat.sub_self]
  rfl
/-! ### least -/
def lstGo (m : Int → Int → Bool) : Nat → List Int → List Int
  | 0, _ => []
  | f + 1, xs => match fst m xs with
    | [] => []
    | k :: _ => k :: lstGo m f (xs.eraseIdx (pf m k xs 0).toNat)
def lea (m : Int → Int → Bool) (xs : List Int) : List Int := lstGo m xs.length xs
theorem lea_nil : lea m [] = [] := rfl
theorem fst_head (hm : Mi m) {xs : List Int} (h : xs ≠ []) : ∃ k r A B, fst m xs = k :: r ∧ Fs m k xs A B := by
  cases e : fst m xs with
  | nil => exact absurd e (fst_ne hm h)
  | cons k r =>
    have z : k ∈ fst m xs := by rw [e]; exact List.mem_cons_self
    obtain ⟨A, B, h⟩ := (mem_fst hm).mp z
    exact ⟨k, r, A, B, rfl, h⟩
theorem lea_cons (hm : Mi m) {k : Int} {xs r A B : List Int} (e : fst m xs = k :: r) (h : Fs m k xs A B) : lea m xs = k :: lea m (A ++ B) := by
  have len : xs.length = (A ++ B).length + 1 := by
    rw [h.1, List.length_append, List.length_append, List.length_cons]
    omega
  unfold lea
  rw [len]
  show (match fst m xs with
    | [] => []
    | k :: _ => k :: lstGo m (A ++ B).length (xs.eraseIdx (pf m k xs 0).toNat)) = _
  rw [e]
  show k :: lstGo m (A ++ B).length (xs.eraseIdx (pf m k xs 0).toNat) = _
  rw [pf_at hm h, Int.toNat_natCast, h.erase]
/-! ### the same doing -/
inductive Tr (m : Int → Int → Bool) : List Int → List Int → Prop
  | rfl (xs : List Int) : Tr m xs xs
  | swp {xs A B : List Int} {a b : Int} : m a b = false → Tr m (A ++ b :: a :: B) xs → Tr m (A ++ a :: b :: B) xs
theorem Tr.trans {xs ys zs : List Int} (h : Tr m xs ys) : Tr m ys zs → Tr m xs zs := by
  induction h with
  | rfl => exact fun h => h
  | swp e _ ih => exact fun h => .swp e (ih h)
theorem Tr.one {A B : List Int} {a b : Int} (e : m a b = false) : Tr m (A ++ a :: b :: B) (A ++ b :: a :: B) := .swp e (.rfl _)
theorem Tr.symm (hm : Mi m) {xs ys : List Int} (h : Tr m xs ys) : Tr m ys xs := by
  induction h with
  | rfl => exact .rfl _
  | swp e _ ih => exact ih.trans (.one (by rw [hm.s]; exact e))
theorem Tr.pre {xs ys : List Int} (h : Tr m xs ys) (C : List Int) : Tr m (C ++ xs) (C ++ ys) := by
  induction h with
  | rfl => exact .rfl _
  | @swp zs A B a b e _ ih =>
    rw [← List.append_assoc] at ih ⊢
    exact .swp e ih
theorem Tr.suf {xs ys : List Int} (h : Tr m xs ys) (C : List Int) : Tr m (xs ++ C) (ys ++ C) := by
  induction h with
  | rfl => exact .rfl _
  | @swp zs A B a b e _ ih =>
    rw [List.append_assoc, List.cons_append, List.cons_append] at ih ⊢
    exact .swp e ih
theorem Tr.cons {xs ys : List Int} (h : Tr m xs ys) (k : Int) : Tr m (k :: xs) (k :: ys) := h.pre [k]
theorem Tr.perm {xs ys : List Int} (h : Tr m xs ys) : xs.Perm ys := by
  induction h with
  | rfl => exact .refl _
  | swp _ _ ih => exact (List.Perm.append_left _ (List.Perm.swap _ _ _)).trans ih
theorem Tr.len {xs ys : List Int} (h : Tr m xs ys) : xs.length = ys.length := h.perm.length_eq
/-- led to the front -/
theorem Tr.lead {k : Int} {B : List Int} : ∀ {A : List Int}, (∀ a ∈ A, m a k = false) → Tr m (A ++ k :: B) (k :: (A ++ B))
  | [], _ => .rfl _
  | a :: A, h => by
    have ih : Tr m (A ++ k :: B) (k :: (A ++ B)) := Tr.lead fun b hb => h b (List.mem_cons_of_mem _ hb)
    exact (ih.cons a).trans (.one (A := []) (h a List.mem_cons_self))
theorem Fs.tr {k : Int} {xs A B : List Int} (h : Fs m k xs A B) : Tr m xs (k :: (A ++ B)) := by
  rw [h.1]
  exact Tr.lead h.2
/-- what may be first stays so -/
theorem Fs.swap (hm : Mi m) {k a b : Int} {P S A B : List Int} (e : m a b = false) (h : Fs m k (P ++ a :: b :: S) A B) : ∃ A' B', Fs m k (P ++ b :: a :: S) A' B' ∧ Tr m (A ++ B) (A' ++ B') := by
  obtain ⟨h1, h2⟩ := h
  rcases List.append_eq_append_iff.mp h1 with ⟨C, rfl, h3⟩ | ⟨C, rfl, h3⟩
  · -- A = P ++ C
    cases C with
    | nil =>
      -- k = a
      rw [List.nil_append] at h3
      injection h3 with h4 h5
      subst h4
      subst h5
      refine ⟨P ++ [b], S, ⟨by simp, fun x hx => ?_⟩, ?_⟩
      · rcases List.mem_append.mp hx with hx | hx
        · exact h2 x (by simpa using hx)
        · rw [List.mem_singleton.mp hx, hm.s]
          exact e
      · simp
        exact .rfl _
    | cons c C =>
      rw [List.cons_append] at h3
      injection h3 with h4 h5
      subst h4
      cases C with
      | nil =>
        -- k = b
        rw [List.nil_append] at h5
        injection h5 with h6 h7
        subst h6
        subst h7
        refine ⟨P, a :: S, ⟨rfl, fun x hx => h2 x (List.mem_append_left _ hx)⟩, ?_⟩
        simp
        exact .rfl _
      | cons c2 C =>
        rw [List.cons_append] at h5
        injection h5 with h6 h7
        subst h6
        subst h7
        refine ⟨P ++ b :: a :: C, B, ⟨by simp, fun x hx => h2 x ?_⟩, ?_⟩
        · simp only [List.mem_append, List.mem_cons] at hx ⊢
          rcases hx with hx | hx | hx | hx
          · exact .inl hx
          · exact .inr (.inr (.inl hx))
          · exact .inr (.inl hx)
          · exact .inr (.inr (.inr hx))
        · rw [List.append_assoc, List.append_assoc]
          exact .one e
  · -- P = A ++ C, k :: B = C ++ ..
    cases C with
    | nil =>
      rw [List.nil_append] at h3
      injection h3 with h4 h5
      subst h4
      subst h5
      refine ⟨A ++ [b], S, ⟨by simp, fun x hx => ?_⟩, ?_⟩
      · rcases List.mem_append.mp hx with hx | hx
        · exact h2 x hx
        · rw [List.mem_singleton.mp hx, hm.s]
          exact e
      · simp
        exact .rfl _
    | cons c C =>
      rw [List.cons_append] at h3
      injection h3 with h4 h5
      subst h4
      subst h5
      refine ⟨A, C ++ b :: a :: S, ⟨by simp, h2⟩, ?_⟩
      rw [← List.append_assoc, ← List.append_assoc]
      exact .one e
/-- of the same doing: what is first, and what is left then -/
theorem Fs.same (hm : Mi m) {k : Int} {xs ys : List Int} (h : Tr m xs ys) : ∀ {A B : List Int}, Fs m k xs A B → ∃ A' B', Fs m k ys A' B' ∧ Tr m (A ++ B) (A' ++ B') := by
  induction h with
  | rfl => exact fun h => ⟨_, _, h, .rfl _⟩
  | swp e _ ih =>
    intro A B h
    obtain ⟨A1, B1, h1, t1⟩ := h.swap hm e
    obtain ⟨A2, B2, h2, t2⟩ := ih h1
    exact ⟨A2, B2, h2, t1.trans t2⟩
theorem Fi.same (hm : Mi m) {k : Int} {xs ys : List Int} (h : Tr m xs ys) : Fi m k xs → Fi m k ys := fun ⟨_, _, hf⟩ => by
  obtain ⟨A, B, h, _⟩ := hf.same hm h
  exact ⟨A, B, h⟩
theorem fst_same (hm : Mi m) {xs ys : List Int} (h : Tr m xs ys) : fst m xs = fst m ys := up_eq up_fst up_fst fun k => by
  rw [mem_fst hm, mem_fst hm]
  exact ⟨Fi.same hm h, Fi.same hm (h.symm hm)⟩
theorem lea_same (hm : Mi m) : ∀ (n : Nat) {xs ys : List Int}, xs.length = n → Tr m xs ys → lea m xs = lea m ys
  | 0, xs, ys, hl, h => by
    have e := h.len
    have e1 := List.length_eq_zero_iff.mp hl
    have e2 := List.length_eq_zero_iff.mp (e.symm.trans hl)
    rw [e1, e2]
  | n + 1, xs, ys, hl, h => by
    have ne : xs ≠ [] := fun e => by rw [e] at hl; cases hl
    obtain ⟨k, r, A, B, e, hf⟩ := fst_head hm ne
    obtain ⟨A', B', hf', t⟩ := hf.same hm h
    rw [lea_cons hm e hf, lea_cons hm ((fst_same hm h).symm.trans e) hf']
    rw [lea_same hm n ?_ t]
    rw [hf.1, List.length_append, List.length_cons] at hl
    rw [List.length_append]
    omega
theorem lea_tr (hm : Mi m) : ∀ (n : Nat) {xs : List Int}, xs.length = n → Tr m xs (lea m xs)
  | 0, xs, hl => by
    rw [List.length_eq_zero_iff.mp hl]
    exact .rfl _
  | n + 1, xs, hl => by
    have ne : xs ≠ [] := fun e => by rw [e] at hl; cases hl
    obtain ⟨k, r, A, B, e, hf⟩ := fst_head hm ne
    rw [lea_cons hm e hf]
    refine hf.tr.trans ((lea_tr hm n ?_).cons k)
    rw [hf.1, List.length_append, List.length_cons] at hl
    rw [List.length_append]
    omega
/-- the least of the least is itself -/
theorem lea_lea (hm : Mi m) (xs : List Int) : lea m (lea m xs) = lea m xs := (lea_same hm _ rfl (lea_tr hm _ rfl)).symm
end
end J
/-! P2: least; the law's own small defs -/
namespace J
open PySem PySem.Spec PyProof.Rows L2
def G_least (K : PySem.W.Frag) : GD := fun ds P => ∃ n ps xs, ds = [mK K n ps, rD xs] ∧ Kinds n xs ∧ xs.length ≤ 1000 ∧ P (.mv (.olst ((lea (mnd ps) xs).map .int)))
/-! ### least -/
abbrev N_least : List Str := ["minds", "row", "found", "left", "kind"]
def T_least_w1 (K : PySem.W.Frag) : DS := (dSeq (dSet 4 (dOp gIx (dCall (G_firsts_of K) (dCons (dVar 0) (dCons (dVar 3) dNil))) (dC (.int 0))))
  (dSeq (dApp 2 (dVar 4))
  (dSet 3 (dFz (dCall (G_without K) (dCons (dVar 3) (dCons (dFz (dCall (G_place_first K) (dCons (dVar 0) (dCons (dVar 3) (dCons (dVar 4) dNil))))) dNil)))))))
def T_least_w1t (K : PySem.W.Frag) : DT := (dT (dOp gNe (dVar 3) (dLst dNil)))
def T_least (K : PySem.W.Frag) : DS := (dSeq (dDrop (dCall (G_check_row K) (dCons (dVar 0) (dCons (dVar 1) dNil))))
  (dSeq (dSet 2 (dLst dNil))
  (dSeq (dSet 3 (dFz (dCB gList (dCons (dVar 1) dNil))))
  (dSeq (dWhile (T_least_w1t K) (T_least_w1 K))
  (dRetM 2)))))
theorem least_w {K : PySem.W.Frag} {n : Int} {ps : List (Int × Int)} {row : D} {E : EndsD} : ∀ (f : Nat) (xs acc : List Int) (e4 : DV), xs.length = f → acc.length + f ≤ 1000 → (∀ e4 left, E.nx [.tr (mK K n ps), .tr row, .tr (.olst ((acc ++ lea (mnd ps) xs).map .int)), left, e4]) →
    whileGo (T_least_w1t K) (T_least_w1 K) E (f + 1) [.tr (mK K n ps), .tr row, .tr (.olst (acc.map .int)), .tr (rD xs), e4]
  | 0, xs, acc, e4, hl, ha, h => by
    refine whileGo_op fun N hN => ?_
    have e := List.length_eq_zero_iff.mp hl
    subst e
    rw [lea_nil, List.append_nil] at h
    simp only [T_least_w1t, mK, rD, dSeq, dIfS, dT, dTn, dTa, dTo, dOp, dVar, dC, dFz_eq, dCB, dCons, dNil, dCall, dCallB, dMeth, dMethB, dSet, dApp, dExt, dRet, dRetM, dNx, dDrop, dNeg, dAnd, dOr, dNot, dIf, dCh, dCh3, dU, dTup, dLst, dFld, dIsi, dIl, dIe, dIr1, dIr2, dIv1, dgN, dgT, putAll, dFor, dPar2, dPar3, dSetT, dLc, dYes, dSl, dNo, dSome, dRev, dNev, dSset, dCount, dIndex, dLrg1, dLrg2, dTwo, un_non, un_int, un_bl, un_str, un_lst, un_tup, un_obj, un_dct, un_scr, un_olst, un_oll, un_oobj, un_mv, un_m, un_p, pl_non, pl_int, pl_bl, pl_str, pl_lst, pl_tup, pl_obj, pl_dct, pl_scr, pl_m, pl_p, fzm_non, fzm_int, fzm_bl, fzm_lst, fzm_tup, fzm_obj, fzm_scr, fzm_olst, fzm_oll, fzm_oobj, fzm_m, frz_non, frz_int, frz_bl, frz_str, frz_lst, frz_tup, frz_obj, frz_dct, frz_scr, frz_olst, frz_oll, frz_m, fz_no, fz_tr, see_no, see_tr, asB_bl, asI_int, asgD_non, asgD_int, asgD_bl, asgD_lst, asgD_tup, asgD_obj, asgD_mv, asgD_m, it_lst, it_olst, it_scr, li_lst, li_olst, pit_lst, pit_scr, sz_lst, sz_olst, sz_oll, sz_scr, sz_tup, ad_int, ad_ll, ad_oo, ad_lo, ad_ol, mu_int, mu_l, mu_o, gI_int, gI0_int, gI2_int, ii_eqv, co_int, co_bl, co_non, co_row, co_rowO, co_nil, co_nilO, co_ps, co_p, co_p2, co_rows, ev_ll, ev_ol, ev_lo, ev_oo, ev_ln, ev_lno, ev_on, ev_ono, in_ps, in_row, gEq, gNe, gIn, gNotIn, g1, g2, gLen, gList, δof, List.getElem?_cons_zero, List.getElem?_cons_succ, List.getElem?_nil, List.set_cons_zero, List.set_cons_succ, List.map_cons, List.map_nil, List.length_cons, List.length_nil, List.replicate_succ, List.replicate_zero, List.cons_append, List.nil_append, Option.bind_some, Option.bind_none, List.all_cons, List.all_nil, List.append_nil, Nat.reduceAdd, Nat.reduceSub, true_and, and_true, Bool.and_true, Bool.true_and]
    exact ⟨by decide, h e4 _⟩
  | f + 1, xs, acc, e4, hl, ha, h => by
    refine whileGo_op fun N hN => ?_
    have ne : xs ≠ [] := fun e => by rw [e] at hl; cases hl
    obtain ⟨k, r, A, B, ef, hf⟩ := fst_head (mi_mnd ps) ne
    simp only [T_least_w1t, mK, rD, dSeq, dIfS, dT, dTn, dTa, dTo, dOp, dVar, dC, dFz_eq, dCB, dCons, dNil, dCall, dCallB, dMeth, dMethB, dSet, dApp, dExt, dRet, dRetM, dNx, dDrop, dNeg, dAnd, dOr, dNot, dIf, dCh, dCh3, dU, dTup, dLst, dFld, dIsi, dIl, dIe, dIr1, dIr2, dIv1, dgN, dgT, putAll, dFor, dPar2, dPar3, dSetT, dLc, dYes, dSl, dNo, dSome, dRev, dNev, dSset, dCount, dIndex, dLrg1, dLrg2, dTwo, un_non, un_int, un_bl, un_str, un_lst, un_tup, un_obj, un_dct, un_scr, un_olst, un_oll, un_oobj, un_mv, un_m, un_p, pl_non, pl_int, pl_bl, pl_str, pl_lst, pl_tup, pl_obj, pl_dct, pl_scr, pl_m, pl_p, fzm_non, fzm_int, fzm_bl, fzm_lst, fzm_tup, fzm_obj, fzm_scr, fzm_olst, fzm_oll, fzm_oobj, fzm_m, frz_non, frz_int, frz_bl, frz_str, frz_lst, frz_tup, frz_obj, frz_dct, frz_scr, frz_olst, frz_oll, frz_m, fz_no, fz_tr, see_no, see_tr, asB_bl, asI_int, asgD_non, asgD_int, asgD_bl, asgD_lst, asgD_tup, asgD_obj, asgD_mv, asgD_m, it_lst, it_olst, it_scr, li_lst, li_olst, pit_lst, pit_scr, sz_lst, sz_olst, sz_oll, sz_scr, sz_tup, ad_int, ad_ll, ad_oo, ad_lo, ad_ol, mu_int, mu_l, mu_o, gI_int, gI0_int, gI2_int, ii_eqv, co_int, co_bl, co_non, co_row, co_rowO, co_nil, co_nilO, co_ps, co_p, co_p2, co_rows, ev_ll, ev_ol, ev_lo, ev_oo, ev_ln, ev_lno, ev_on, ev_ono, in_ps, in_row, gEq, gNe, gIn, gNotIn, g1, g2, gLen, gList, δof, List.getElem?_cons_zero, List.getElem?_cons_succ, List.getElem?_nil, List.set_cons_zero, List.set_cons_succ, List.map_cons, List.map_nil, List.length_cons, List.length_nil, List.replicate_succ, List.replicate_zero, List.cons_append, List.nil_append, Option.bind_some, Option.bind_none, List.all_cons, List.all_nil, List.append_nil, Nat.reduceAdd, Nat.reduceSub, true_and, and_true, Bool.and_true, Bool.true_and]
    refine ⟨by decide, ?_⟩
    rw [decide_eq_false ne]
    simp only [Bool.not_false, T_least_w1, mK, rD, dSeq, dIfS, dT, dTn, dTa, dTo, dOp, dVar, dC, dFz_eq, dCB, dCons, dNil, dCall, dCallB, dMeth, dMethB, dSet, dApp, dExt, dRet, dRetM, dNx, dDrop, dNeg, dAnd, dOr, dNot, dIf, dCh, dCh3, dU, dTup, dLst, dFld, dIsi, dIl, dIe, dIr1, dIr2, dIv1, dgN, dgT, putAll, dFor, dPar2, dPar3, dSetT, dLc, dYes, dSl, dNo, dSome, dRev, dNev, dSset, dCount, dIndex, dLrg1, dLrg2, dTwo, un_non, un_int, un_bl, un_str, un_lst, un_tup, un_obj, un_dct, un_scr, un_olst, un_oll, un_oobj, un_mv, un_m, un_p, pl_non, pl_int, pl_bl, pl_str, pl_lst, pl_tup, pl_obj, pl_dct, pl_scr, pl_m, pl_p, fzm_non, fzm_int, fzm_bl, fzm_lst, fzm_tup, fzm_obj, fzm_scr, fzm_olst, fzm_oll, fzm_oobj, fzm_m, frz_non, frz_int, frz_bl, frz_str, frz_lst, frz_tup, frz_obj, frz_dct, frz_scr, frz_olst, frz_oll, frz_m, fz_no, fz_tr, see_no, see_tr, asB_bl, asI_int, asgD_non, asgD_int, asgD_bl, asgD_lst, asgD_tup, asgD_obj, asgD_mv, asgD_m, it_lst, it_olst, it_scr, li_lst, li_olst, pit_lst, pit_scr, sz_lst, sz_olst, sz_oll, sz_scr, sz_tup, ad_int, ad_ll, ad_oo, ad_lo, ad_ol, mu_int, mu_l, mu_o, gI_int, gI0_int, gI2_int, ii_eqv, co_int, co_bl, co_non, co_row, co_rowO, co_nil, co_nilO, co_ps, co_p, co_p2, co_rows, ev_ll, ev_ol, ev_lo, ev_oo, ev_ln, ev_lno, ev_on, ev_ono, in_ps, in_row, gEq, gNe, gIn, gNotIn, g1, g2, gLen, gList, δof, List.getElem?_cons_zero, List.getElem?_cons_succ, List.getElem?_nil, List.set_cons_zero, List.set_cons_succ, List.map_cons, List.map_nil, List.length_cons, List.length_nil, List.replicate_succ, List.replicate_zero, List.cons_append, List.nil_append, Option.bind_some, Option.bind_none, List.all_cons, List.all_nil, List.append_nil, Nat.reduceAdd, Nat.reduceSub, true_and, and_true, Bool.and_true, Bool.true_and]
    refine ⟨n, ps, xs, rfl, by omega, ?_⟩
    rw [ef]
    simp only [dSeq, dIfS, dT, dTn, dTa, dTo, dOp, dVar, dC, dFz_eq, dCB, dCons, dNil, dCall, dCallB, dMeth, dMethB, dSet, dApp, dExt, dRet, dRetM, dNx, dDrop, dNeg, dAnd, dOr, dNot, dIf, dCh, dCh3, dU, dTup, dLst, dFld, dIsi, dIl, dIe, dIr1, dIr2, dIv1, dgN, dgT, putAll, dFor, dPar2, dPar3, dSetT, dLc, dYes, dSl, dNo, dSome, dRev, dNev, dSset, dCount, dIndex, dLrg1, dLrg2, dTwo, un_non, un_int, un_bl, un_str, un_lst, un_tup, un_obj, un_dct, un_scr, un_olst, un_oll, un_oobj, un_mv, un_m, un_p, pl_non, pl_int, pl_bl, pl_str, pl_lst, pl_tup, pl_obj, pl_dct, pl_scr, pl_m, pl_p, fzm_non, fzm_int, fzm_bl, fzm_lst, fzm_tup, fzm_obj, fzm_scr, fzm_olst, fzm_oll, fzm_oobj, fzm_m, frz_non, frz_int, frz_bl, frz_str, frz_lst, frz_tup, frz_obj, frz_dct, frz_scr, frz_olst, frz_oll, frz_m, fz_no, fz_tr, see_no, see_tr, asB_bl, asI_int, asgD_non, asgD_int, asgD_bl, asgD_lst, asgD_tup, asgD_obj, asgD_mv, asgD_m, it_lst, it_olst, it_scr, li_lst, li_olst, pit_lst, pit_scr, sz_lst, sz_olst, sz_oll, sz_scr, sz_tup, ad_int, ad_ll, ad_oo, ad_lo, ad_ol, mu_int, mu_l, mu_o, gI_int, gI0_int, gI2_int, ii_eqv, co_int, co_bl, co_non, co_row, co_rowO, co_nil, co_nilO, co_ps, co_p, co_p2, co_rows, ev_ll, ev_ol, ev_lo, ev_oo, ev_ln, ev_lno, ev_on, ev_ono, in_ps, in_row, gEq, gNe, gIn, gNotIn, g1, g2, gLen, gList, δof, List.getElem?_cons_zero, List.getElem?_cons_succ, List.getElem?_nil, List.set_cons_zero, List.set_cons_succ, List.map_cons, List.map_nil, List.length_cons, List.length_nil, List.replicate_succ, List.replicate_zero, List.cons_append, List.nil_append, Option.bind_some, Option.bind_none, List.all_cons, List.all_nil, List.append_nil, Nat.reduceAdd, Nat.reduceSub, true_and, and_true, Bool.and_true, Bool.true_and]
    refine ix_olst ⟨_, at_zero, ?_⟩
    simp only [dSeq, dIfS, dT, dTn, dTa, dTo, dOp, dVar, dC, dFz_eq, dCB, dCons, dNil, dCall, dCallB, dMeth, dMethB, dSet, dApp, dExt, dRet, dRetM, dNx, dDrop, dNeg, dAnd, dOr, dNot, dIf, dCh, dCh3, dU, dTup, dLst, dFld, dIsi, dIl, dIe, dIr1, dIr2, dIv1, dgN, dgT, putAll, dFor, dPar2, dPar3, dSetT, dLc, dYes, dSl, dNo, dSome, dRev, dNev, dSset, dCount, dIndex, dLrg1, dLrg2, dTwo, un_non, un_int, un_bl, un_str, un_lst, un_tup, un_obj, un_dct, un_scr, un_olst, un_oll, un_oobj, un_mv, un_m, un_p, pl_non, pl_int, pl_bl, pl_str, pl_lst, pl_tup, pl_obj, pl_dct, pl_scr, pl_m, pl_p, fzm_non, fzm_int, fzm_bl, fzm_lst, fzm_tup, fzm_obj, fzm_scr, fzm_olst, fzm_oll, fzm_oobj, fzm_m, frz_non, frz_int, frz_bl, frz_str, frz_lst, frz_tup, frz_obj, frz_dct, frz_scr, frz_olst, frz_oll, frz_m, fz_no, fz_tr, see_no, see_tr, asB_bl, asI_int, asgD_non, asgD_int, asgD_bl, asgD_lst, asgD_tup, asgD_obj, asgD_mv, asgD_m, it_lst, it_olst, it_scr, li_lst, li_olst, pit_lst, pit_scr, sz_lst, sz_olst, sz_oll, sz_scr, sz_tup, ad_int, ad_ll, ad_oo, ad_lo, ad_ol, mu_int, mu_l, mu_o, gI_int, gI0_int, gI2_int, ii_eqv, co_int, co_bl, co_non, co_row, co_rowO, co_nil, co_nilO, co_ps, co_p, co_p2, co_rows, ev_ll, ev_ol, ev_lo, ev_oo, ev_ln, ev_lno, ev_on, ev_ono, in_ps, in_row, gEq, gNe, gIn, gNotIn, g1, g2, gLen, gList, δof, List.getElem?_cons_zero, List.getElem?_cons_succ, List.getElem?_nil, List.set_cons_zero, List.set_cons_succ, List.map_cons, List.map_nil, List.length_cons, List.length_nil, List.replicate_succ, List.replicate_zero, List.cons_append, List.nil_append, Option.bind_some, Option.bind_none, List.all_cons, List.all_nil, List.append_nil, Nat.reduceAdd, Nat.reduceSub, true_and, and_true, Bool.and_true, Bool.true_and]
    refine ⟨by rw [List.length_map]; omega, n, ps, xs, k, rfl, ?_⟩
    rw [pf_at (mi_mnd ps) hf]
    simp only [dSeq, dIfS, dT, dTn, dTa, dTo, dOp, dVar, dC, dFz_eq, dCB, dCons, dNil, dCall, dCallB, dMeth, dMethB, dSet, dApp, dExt, dRet, dRetM, dNx, dDrop, dNeg, dAnd, dOr, dNot, dIf, dCh, dCh3, dU, dTup, dLst, dFld, dIsi, dIl, dIe, dIr1, dIr2, dIv1, dgN, dgT, putAll, dFor, dPar2, dPar3, dSetT, dLc, dYes, dSl, dNo, dSome, dRev, dNev, dSset, dCount, dIndex, dLrg1, dLrg2, dTwo, un_non, un_int, un_bl, un_str, un_lst, un_tup, un_obj, un_dct, un_scr, un_olst, un_oll, un_oobj, un_mv, un_m, un_p, pl_non, pl_int, pl_bl, pl_str, pl_lst, pl_tup, pl_obj, pl_dct, pl_scr, pl_m, pl_p, fzm_non, fzm_int, fzm_bl, fzm_lst, fzm_tup, fzm_obj, fzm_scr, fzm_olst, fzm_oll, fzm_oobj, fzm_m, frz_non, frz_int, frz_bl, frz_str, frz_lst, frz_tup, frz_obj, frz_dct, frz_scr, frz_olst, frz_oll, frz_m, fz_no, fz_tr, see_no, see_tr, asB_bl, asI_int, asgD_non, asgD_int, asgD_bl, asgD_lst, asgD_tup, asgD_obj, asgD_mv, asgD_m, it_lst, it_olst, it_scr, li_lst, li_olst, pit_lst, pit_scr, sz_lst, sz_olst, sz_oll, sz_scr, sz_tup, ad_int, ad_ll, ad_oo, ad_lo, ad_ol, mu_int, mu_l, mu_o, gI_int, gI0_int, gI2_int, ii_eqv, co_int, co_bl, co_non, co_row, co_rowO, co_nil, co_nilO, co_ps, co_p, co_p2, co_rows, ev_ll, ev_ol, ev_lo, ev_oo, ev_ln, ev_lno, ev_on, ev_ono, in_ps, in_row, gEq, gNe, gIn, gNotIn, g1, g2, gLen, gList, δof, List.getElem?_cons_zero, List.getElem?_cons_succ, List.getElem?_nil, List.set_cons_zero, List.set_cons_succ, List.map_cons, List.map_nil, List.length_cons, List.length_nil, List.replicate_succ, List.replicate_zero, List.cons_append, List.nil_append, Option.bind_some, Option.bind_none, List.all_cons, List.all_nil, List.append_nil, Nat.reduceAdd, Nat.reduceSub, true_and, and_true, Bool.and_true, Bool.true_and]
    have la : A.length < xs.length := by
      rw [hf.1, List.length_append, List.length_cons]
      omega
    refine ⟨xs, A.length, rfl, la, by omega, ?_⟩
    rw [hf.erase, hN]
    simp only [dSeq, dIfS, dT, dTn, dTa, dTo, dOp, dVar, dC, dFz_eq, dCB, dCons, dNil, dCall, dCallB, dMeth, dMethB, dSet, dApp, dExt, dRet, dRetM, dNx, dDrop, dNeg, dAnd, dOr, dNot, dIf, dCh, dCh3, dU, dTup, dLst, dFld, dIsi, dIl, dIe, dIr1, dIr2, dIv1, dgN, dgT, putAll, dFor, dPar2, dPar3, dSetT, dLc, dYes, dSl, dNo, dSome, dRev, dNev, dSset, dCount, dIndex, dLrg1, dLrg2, dTwo, un_non, un_int, un_bl, un_str, un_lst, un_tup, un_obj, un_dct, un_scr, un_olst, un_oll, un_oobj, un_mv, un_m, un_p, pl_non, pl_int, pl_bl, pl_str, pl_lst, pl_tup, pl_obj, pl_dct, pl_scr, pl_m, pl_p, fzm_non, fzm_int, fzm_bl, fzm_lst, fzm_tup, fzm_obj, fzm_scr, fzm_olst, fzm_oll, fzm_oobj, fzm_m, frz_non, frz_int, frz_bl, frz_str, frz_lst, frz_tup, frz_obj, frz_dct, frz_scr, frz_olst, frz_oll, frz_m, fz_no, fz_tr, see_no, see_tr, asB_bl, asI_int, asgD_non, asgD_int, asgD_bl, asgD_lst, asgD_tup, asgD_obj, asgD_mv, asgD_m, it_lst, it_olst, it_scr, li_lst, li_olst, pit_lst, pit_scr, sz_lst, sz_olst, sz_oll, sz_scr, sz_tup, ad_int, ad_ll, ad_oo, ad_lo, ad_ol, mu_int, mu_l, mu_o, gI_int, gI0_int, gI2_int, ii_eqv, co_int, co_bl, co_non, co_row, co_rowO, co_nil, co_nilO, co_ps, co_p, co_p2, co_rows, ev_ll, ev_ol, ev_lo, ev_oo, ev_ln, ev_lno, ev_on, ev_ono, in_ps, in_row, gEq, gNe, gIn, gNotIn, g1, g2, gLen, gList, δof, List.getElem?_cons_zero, List.getElem?_cons_succ, List.getElem?_nil, List.set_cons_zero, List.set_cons_succ, List.map_cons, List.map_nil, List.length_cons, List.length_nil, List.replicate_succ, List.replicate_zero, List.cons_append, List.nil_append, Option.bind_some, Option.bind_none, List.all_cons, List.all_nil, List.append_nil, Nat.reduceAdd, Nat.reduceSub, true_and, and_true, Bool.and_true, Bool.true_and]
    have z := least_w (K := K) (n := n) (ps := ps) (row := row) (E := E) f (A ++ B) (acc ++ [k]) (.tr (.int k)) (by
      rw [hf.1, List.length_append, List.length_cons] at hl
      rw [List.length_append]
      omega) (by rw [List.length_append, List.length_cons, List.length_nil]; omega) fun e4 left => by
        have q := h e4 left
        rw [lea_cons (mi_mnd ps) ef hf] at q
        rw [List.append_assoc]
        exact q
    rw [List.map_append] at z
    exact z
theorem rd_least {K : PySem.W.Frag} : ∀ ds Q, G_least K ds Q → T_least K { nx := fun _ => Q .non, rt := Q } (δof N_least.length ds) := by
  rintro _ Q ⟨n, ps, xs, rfl, hx, hl, h⟩
  simp only [T_least, mK, rD, dSeq, dIfS, dT, dTn, dTa, dTo, dOp, dVar, dC, dFz_eq, dCB, dCons, dNil, dCall, dCallB, dMeth, dMethB, dSet, dApp, dExt, dRet, dRetM, dNx, dDrop, dNeg, dAnd, dOr, dNot, dIf, dCh, dCh3, dU, dTup, dLst, dFld, dIsi, dIl, dIe, dIr1, dIr2, dIv1, dgN, dgT, putAll, dFor, dPar2, dPar3, dSetT, dLc, dYes, dSl, dNo, dSome, dRev, dNev, dSset, dCount, dIndex, dLrg1, dLrg2, dTwo, un_non, un_int, un_bl, un_str, un_lst, un_tup, un_obj, un_dct, un_scr, un_olst, un_oll, un_oobj, un_mv, un_m, un_p, pl_non, pl_int, pl_bl, pl_str, pl_lst, pl_tup, pl_obj, pl_dct, pl_scr, pl_m, pl_p, fzm_non, fzm_int, fzm_bl, fzm_lst, fzm_tup, fzm_obj, fzm_scr, fzm_olst, fzm_oll, fzm_oobj, fzm_m, frz_non, frz_int, frz_bl, frz_str, frz_lst, frz_tup, frz_obj, frz_dct, frz_scr, frz_olst, frz_oll, frz_m, fz_no, fz_tr, see_no, see_tr, asB_bl, asI_int, asgD_non, asgD_int, asgD_bl, asgD_lst, asgD_tup, asgD_obj, asgD_mv, asgD_m, it_lst, it_olst, it_scr, li_lst, li_olst, pit_lst, pit_scr, sz_lst, sz_olst, sz_oll, sz_scr, sz_tup, ad_int, ad_ll, ad_oo, ad_lo, ad_ol, mu_int, mu_l, mu_o, gI_int, gI0_int, gI2_int, ii_eqv, co_int, co_bl, co_non, co_row, co_rowO, co_nil, co_nilO, co_ps, co_p, co_p2, co_rows, ev_ll, ev_ol, ev_lo, ev_oo, ev_ln, ev_lno, ev_on, ev_ono, in_ps, in_row, gEq, gNe, gIn, gNotIn, g1, g2, gLen, gList, δof, List.getElem?_cons_zero, List.getElem?_cons_succ, List.getElem?_nil, List.set_cons_zero, List.set_cons_succ, List.map_cons, List.map_nil, List.length_cons, List.length_nil, List.replicate_succ, List.replicate_zero, List.cons_append, List.nil_append, Option.bind_some, Option.bind_none, List.all_cons, List.all_nil, List.append_nil, Nat.reduceAdd, Nat.reduceSub, true_and, and_true, Bool.and_true, Bool.true_and]
  refine ⟨n, ps, xs, rfl, hx, hl, ?_⟩
  refine ⟨by decide, xs.length + 1, ?_⟩
  refine least_w (K := K) (n := n) (ps := ps) (row := rD xs) xs.length xs [] _ rfl (by simpa using hl) fun e4 left => ?_
  simp only [dSeq, dIfS, dT, dTn, dTa, dTo, dOp, dVar, dC, dFz_eq, dCB, dCons, dNil, dCall, dCallB, dMeth, dMethB, dSet, dApp, dExt, dRet, dRetM, dNx, dDrop, dNeg, dAnd, dOr, dNot, dIf, dCh, dCh3, dU, dTup, dLst, dFld, dIsi, dIl, dIe, dIr1, dIr2, dIv1, dgN, dgT, putAll, dFor, dPar2, dPar3, dSetT, dLc, dYes, dSl, dNo, dSome, dRev, dNev, dSset, dCount, dIndex, dLrg1, dLrg2, dTwo, un_non, un_int, un_bl, un_str, un_lst, un_tup, un_obj, un_dct, un_scr, un_olst, un_oll, un_oobj, un_mv, un_m, un_p, pl_non, pl_int, pl_bl, pl_str, pl_lst, pl_tup, pl_obj, pl_dct, pl_scr, pl_m, pl_p, fzm_non, fzm_int, fzm_bl, fzm_lst, fzm_tup, fzm_obj, fzm_scr, fzm_olst, fzm_oll, fzm_oobj, fzm_m, frz_non, frz_int, frz_bl, frz_str, frz_lst, frz_tup, frz_obj, frz_dct, frz_scr, frz_olst, frz_oll, frz_m, fz_no, fz_tr, see_no, see_tr, asB_bl, asI_int, asgD_non, asgD_int, asgD_bl, asgD_lst, asgD_tup, asgD_obj, asgD_mv, asgD_m, it_lst, it_olst, it_scr, li_lst, li_olst, pit_lst, pit_scr, sz_lst, sz_olst, sz_oll, sz_scr, sz_tup, ad_int, ad_ll, ad_oo, ad_lo, ad_ol, mu_int, mu_l, mu_o, gI_int, gI0_int, gI2_int, ii_eqv, co_int, co_bl, co_non, co_row, co_rowO, co_nil, co_nilO, co_ps, co_p, co_p2, co_rows, ev_ll, ev_ol, ev_lo, ev_oo, ev_ln, ev_lno, ev_on, ev_ono, in_ps, in_row, gEq, gNe, gIn, gNotIn, g1, g2, gLen, gList, δof, List.getElem?_cons_zero, List.getElem?_cons_succ, List.getElem?_nil, List.set_cons_zero, List.set_cons_succ, List.map_cons, List.map_nil, List.length_cons, List.length_nil, List.replicate_succ, List.replicate_zero, List.cons_append, List.nil_append, Option.bind_some, Option.bind_none, List.all_cons, List.all_nil, List.append_nil, Nat.reduceAdd, Nat.reduceSub, true_and, and_true, Bool.and_true, Bool.true_and]
  exact h

/-! ### the law's own -/
def G_law_mind (_K : PySem.W.Frag) : GD := fun ds P => ∃ ps a b, ds = [.lst (ps.map pD), .int a, .int b] ∧ P (.bl (mnd ps a b))
/-! ### law_mind -/
abbrev N_law_mind : List Str := ["_law_pairs", "_law_one", "_law_other"]
def T_law_mind (K : PySem.W.Frag) : DS := (dRet (dOr (dOp gEq (dVar 1) (dVar 2)) (dOp gIn (dTup (dCons (dFz (dCB (gI2 fun i j => if j < i then j else i) (dCons (dVar 1) (dCons (dVar 2) dNil)))) (dCons (dFz (dCB (gI2 fun i j => if j > i then j else i) (dCons (dVar 1) (dCons (dVar 2) dNil)))) dNil))) (dVar 0))))
theorem rd_law_mind {K : PySem.W.Frag} : ∀ ds Q, G_law_mind K ds Q → T_law_mind K { nx := fun _ => Q .non, rt := Q } (δof N_law_mind.length ds) := by
  rintro _ Q ⟨ps, a, b, rfl, h⟩
  simp only [T_law_mind, dSeq, dIfS, dT, dTn, dTa, dTo, dOp, dVar, dC, dFz_eq, dCB, dCons, dNil, dCall, dCallB, dMeth, dMethB, dSet, dApp, dExt, dRet, dRetM, dNx, dDrop, dNeg, dAnd, dOr, dNot, dIf, dCh, dCh3, dU, dTup, dLst, dFld, dIsi, dIl, dIe, dIr1, dIr2, dIv1, dgN, dgT, putAll, dFor, dPar2, dPar3, dSetT, dLc, dYes, dSl, dNo, dSome, dRev, dNev, dSset, dCount, dIndex, dLrg1, dLrg2, dTwo, un_non, un_int, un_bl, un_str, un_lst, un_tup, un_obj, un_dct, un_scr, un_olst, un_oll, un_oobj, un_mv, un_m, un_p, pl_non, pl_int, pl_bl, pl_str, pl_lst, pl_tup, pl_obj, pl_dct, pl_scr, pl_m, pl_p, fzm_non, fzm_int, fzm_bl, fzm_lst, fzm_tup, fzm_obj, fzm_scr, fzm_olst, fzm_oll, fzm_oobj, fzm_m, frz_non, frz_int, frz_bl, frz_str, frz_lst, frz_tup, frz_obj, frz_dct, frz_scr, frz_olst, frz_oll, frz_m, fz_no, fz_tr, see_no, see_tr, asB_bl, asI_int, asgD_non, asgD_int, asgD_bl, asgD_lst, asgD_tup, asgD_obj, asgD_mv, asgD_m, it_lst, it_olst, it_scr, li_lst, li_olst, pit_lst, pit_scr, sz_lst, sz_olst, sz_oll, sz_scr, sz_tup, ad_int, ad_ll, ad_oo, ad_lo, ad_ol, mu_int, mu_l, mu_o, gI_int, gI0_int, gI2_int, ii_eqv, co_int, co_bl, co_non, co_row, co_rowO, co_nil, co_nilO, co_ps, co_p, co_p2, co_rows, ev_ll, ev_ol, ev_lo, ev_oo, ev_ln, ev_lno, ev_on, ev_ono, in_ps, in_row, gEq, gNe, gIn, gNotIn, g1, g2, gLen, gList, δof, List.getElem?_cons_zero, List.getElem?_cons_succ, List.getElem?_nil, List.set_cons_zero, List.set_cons_succ, List.map_cons, List.map_nil, List.length_cons, List.length_nil, List.replicate_succ, List.replicate_zero, List.cons_append, List.nil_append, Option.bind_some, Option.bind_none, List.all_cons, List.all_nil, List.append_nil, Nat.reduceAdd, Nat.reduceSub, true_and, and_true, Bool.and_true, Bool.true_and]
  by_cases e : a = b
  · subst e
    rw [mnd_refl] at h
    simp only [decide_true]
    exact h
  · simp only [decide_eq_false e, dSeq, dIfS, dT, dTn, dTa, dTo, dOp, dVar, dC, dFz_eq, dCB, dCons, dNil, dCall, dCallB, dMeth, dMethB, dSet, dApp, dExt, dRet, dRetM, dNx, dDrop, dNeg, dAnd, dOr, dNot, dIf, dCh, dCh3, dU, dTup, dLst, dFld, dIsi, dIl, dIe, dIr1, dIr2, dIv1, dgN, dgT, putAll, dFor, dPar2, dPar3, dSetT, dLc, dYes, dSl, dNo, dSome, dRev, dNev, dSset, dCount, dIndex, dLrg1, dLrg2, dTwo, un_non, un_int, un_bl, un_str, un_lst, un_tup, un_obj, un_dct, un_scr, un_olst, un_oll, un_oobj, un_mv, un_m, un_p, pl_non, pl_int, pl_bl, pl_str, pl_lst, pl_tup, pl_obj, pl_dct, pl_scr, pl_m, pl_p, fzm_non, fzm_int, fzm_bl, fzm_lst, fzm_tup, fzm_obj, fzm_scr, fzm_olst, fzm_oll, fzm_oobj, fzm_m, frz_non, frz_int, frz_bl, frz_str, frz_lst, frz_tup, frz_obj, frz_dct, frz_scr, frz_olst, frz_oll, frz_m, fz_no, fz_tr, see_no, see_tr, asB_bl, asI_int, asgD_non, asgD_int, asgD_bl, asgD_lst, asgD_tup, asgD_obj, asgD_mv, asgD_m, it_lst, it_olst, it_scr, li_lst, li_olst, pit_lst, pit_scr, sz_lst, sz_olst, sz_oll, sz_scr, sz_tup, ad_int, ad_ll, ad_oo, ad_lo, ad_ol, mu_int, mu_l, mu_o, gI_int, gI0_int, gI2_int, ii_eqv, co_int, co_bl, co_non, co_row, co_rowO, co_nil, co_nilO, co_ps, co_p, co_p2, co_rows, ev_ll, ev_ol, ev_lo, ev_oo, ev_ln, ev_lno, ev_on, ev_ono, in_ps, in_row, gEq, gNe, gIn, gNotIn, g1, g2, gLen, gList, δof, List.getElem?_cons_zero, List.getElem?_cons_succ, List.getElem?_nil, List.set_cons_zero, List.set_cons_succ, List.map_cons, List.map_nil, List.length_cons, List.length_nil, List.replicate_succ, List.replicate_zero, List.cons_append, List.nil_append, Option.bind_some, Option.bind_none, List.all_cons, List.all_nil, List.append_nil, Nat.reduceAdd, Nat.reduceSub, true_and, and_true, Bool.and_true, Bool.true_and]
    have z : mnd ps a b = decide (((if b < a then b else a), (if b > a then b else a)) ∈ ps) := by simp [mnd, e]
    rw [z] at h
    exact ⟨by decide, h⟩
/-- items that may be walked, ints -/
def Ints (d : D) (ns : List Int) : Prop := d.pit = some (ns.map .int) ∧ d.plain = true ∧ d.un = d ∧ d.items = some (ns.map .int) ∧ d.size = some ns.length ∧ frz d = d
theorem ints_s (ns : List Int) : Ints (.scr ns) ns := ⟨rfl, rfl, rfl, rfl, rfl, rfl⟩
theorem ints_r (ns : List Int) : Ints (rD ns) ns := ⟨rfl, rfl, rfl, rfl, by show some (ns.map D.int).length = _; rw [List.length_map], rfl⟩
def rowOf (ns : List Int) (n bY : Int) : List Int := ns.map fun c => (c.fdiv bY).fmod n
def G_law_row (_K : PySem.W.Frag) : GD := fun ds P => ∃ d ns n bY, ds = [d, .int n, .int bY] ∧ Ints d ns ∧ n ≠ 0 ∧ CDivN 0 bY ∧ ns.length ≤ 1000 ∧ P (.mv (.olst ((rowOf ns n bY).map .int)))
/-! ### law_row -/
abbrev N_law_row : List Str := ["_law_script", "_law_kinds", "_law_by", "_law_cell"]
def T_law_row_c1 (K : PySem.W.Frag) : DE := (dFz (dOp (gI (fun _ j => j ≠ 0) fun i j => .int (i.fmod j)) (dOp (gI CDivN fun i j => .int (i.fdiv j)) (dVar 3) (dVar 2)) (dVar 1)))
def T_law_row (K : PySem.W.Frag) : DS := (dRet (dLc 3 (dIl (dVar 0)) dYes (T_law_row_c1 K)))
theorem law_row_c {K : PySem.W.Frag} {d : D} {n bY : Int} {P : D → Prop} (hn : n ≠ 0) (hb : CDivN 0 bY) : ∀ (ns acc : List Int) (e3 : DV), acc.length + ns.length ≤ 1000 → P (.mv (.olst ((acc ++ rowOf ns n bY).map .int))) → compGo 3 dYes (T_law_row_c1 K) P (ns.map .int) (acc.map .int) [.tr d, .tr (.int n), .tr (.int bY), e3]
  | [], acc, e3, _, h => by
    simpa [rowOf, compGo] using h
  | c :: ns, acc, e3, hl, h => by
    rw [List.length_cons] at hl
    refine compGo_op fun N hN => ?_
    simp only [T_law_row_c1, dSeq, dIfS, dT, dTn, dTa, dTo, dOp, dVar, dC, dFz_eq, dCB, dCons, dNil, dCall, dCallB, dMeth, dMethB, dSet, dApp, dExt, dRet, dRetM, dNx, dDrop, dNeg, dAnd, dOr, dNot, dIf, dCh, dCh3, dU, dTup, dLst, dFld, dIsi, dIl, dIe, dIr1, dIr2, dIv1, dgN, dgT, putAll, dFor, dPar2, dPar3, dSetT, dLc, dYes, dSl, dNo, dSome, dRev, dNev, dSset, dCount, dIndex, dLrg1, dLrg2, dTwo, un_non, un_int, un_bl, un_str, un_lst, un_tup, un_obj, un_dct, un_scr, un_olst, un_oll, un_oobj, un_mv, un_m, un_p, pl_non, pl_int, pl_bl, pl_str, pl_lst, pl_tup, pl_obj, pl_dct, pl_scr, pl_m, pl_p, fzm_non, fzm_int, fzm_bl, fzm_lst, fzm_tup, fzm_obj, fzm_scr, fzm_olst, fzm_oll, fzm_oobj, fzm_m, frz_non, frz_int, frz_bl, frz_str, frz_lst, frz_tup, frz_obj, frz_dct, frz_scr, frz_olst, frz_oll, frz_m, fz_no, fz_tr, see_no, see_tr, asB_bl, asI_int, asgD_non, asgD_int, asgD_bl, asgD_lst, asgD_tup, asgD_obj, asgD_mv, asgD_m, it_lst, it_olst, it_scr, li_lst, li_olst, pit_lst, pit_scr, sz_lst, sz_olst, sz_oll, sz_scr, sz_tup, ad_int, ad_ll, ad_oo, ad_lo, ad_ol, mu_int, mu_l, mu_o, gI_int, gI0_int, gI2_int, ii_eqv, co_int, co_bl, co_non, co_row, co_rowO, co_nil, co_nilO, co_ps, co_p, co_p2, co_rows, ev_ll, ev_ol, ev_lo, ev_oo, ev_ln, ev_lno, ev_on, ev_ono, in_ps, in_row, gEq, gNe, gIn, gNotIn, g1, g2, gLen, gList, δof, List.getElem?_cons_zero, List.getElem?_cons_succ, List.getElem?_nil, List.set_cons_zero, List.set_cons_succ, List.map_cons, List.map_nil, List.length_cons, List.length_nil, List.replicate_succ, List.replicate_zero, List.cons_append, List.nil_append, Option.bind_some, Option.bind_none, List.all_cons, List.all_nil, List.append_nil, Nat.reduceAdd, Nat.reduceSub, true_and, and_true, Bool.and_true, Bool.true_and]
    refine ⟨hb, hn, by rw [List.length_map]; omega, ?_⟩
    rw [hN]
    have z := law_row_c (K := K) (d := d) (n := n) (bY := bY) (P := P) hn hb ns (acc ++ [(c.fdiv bY).fmod n]) e3 (by rw [List.length_append, List.length_cons, List.length_nil]; omega) (by rw [List.append_assoc]; exact h)
    rw [List.map_append] at z
    exact z
theorem rd_law_row {K : PySem.W.Frag} : ∀ ds Q, G_law_row K ds Q → T_law_row K { nx := fun _ => Q .non, rt := Q } (δof N_law_row.length ds) := by
  rintro _ Q ⟨d, ns, n, bY, rfl, ⟨h1, h2, h3, h4, h5, h6⟩, hn, hb, hl, h⟩
  simp only [T_law_row, dSeq, dIfS, dT, dTn, dTa, dTo, dOp, dVar, dC, dFz_eq, dCB, dCons, dNil, dCall, dCallB, dMeth, dMethB, dSet, dApp, dExt, dRet, dRetM, dNx, dDrop, dNeg, dAnd, dOr, dNot, dIf, dCh, dCh3, dU, dTup, dLst, dFld, dIsi, dIl, dIe, dIr1, dIr2, dIv1, dgN, dgT, putAll, dFor, dPar2, dPar3, dSetT, dLc, dYes, dSl, dNo, dSome, dRev, dNev, dSset, dCount, dIndex, dLrg1, dLrg2, dTwo, un_non, un_int, un_bl, un_str, un_lst, un_tup, un_obj, un_dct, un_scr, un_olst, un_oll, un_oobj, un_mv, un_m, un_p, pl_non, pl_int, pl_bl, pl_str, pl_lst, pl_tup, pl_obj, pl_dct, pl_scr, pl_m, pl_p, fzm_non, fzm_int, fzm_bl, fzm_lst, fzm_tup, fzm_obj, fzm_scr, fzm_olst, fzm_oll, fzm_oobj, fzm_m, frz_non, frz_int, frz_bl, frz_str, frz_lst, frz_tup, frz_obj, frz_dct, frz_scr, frz_olst, frz_oll, frz_m, fz_no, fz_tr, see_no, see_tr, asB_bl, asI_int, asgD_non, asgD_int, asgD_bl, asgD_lst, asgD_tup, asgD_obj, asgD_mv, asgD_m, it_lst, it_olst, it_scr, li_lst, li_olst, pit_lst, pit_scr, sz_lst, sz_olst, sz_oll, sz_scr, sz_tup, ad_int, ad_ll, ad_oo, ad_lo, ad_ol, mu_int, mu_l, mu_o, gI_int, gI0_int, gI2_int, ii_eqv, co_int, co_bl, co_non, co_row, co_rowO, co_nil, co_nilO, co_ps, co_p, co_p2, co_rows, ev_ll, ev_ol, ev_lo, ev_oo, ev_ln, ev_lno, ev_on, ev_ono, in_ps, in_row, gEq, gNe, gIn, gNotIn, g1, g2, gLen, gList, δof, List.getElem?_cons_zero, List.getElem?_cons_succ, List.getElem?_nil, List.set_cons_zero, List.set_cons_succ, List.map_cons, List.map_nil, List.length_cons, List.length_nil, List.replicate_succ, List.replicate_zero, List.cons_append, List.nil_append, Option.bind_some, Option.bind_none, List.all_cons, List.all_nil, List.append_nil, Nat.reduceAdd, Nat.reduceSub, true_and, and_true, Bool.and_true, Bool.true_and, h6, h3, h1]
  exact law_row_c (K := K) (d := d) hn hb ns [] _ (by simpa using hl) h
def G_law_jostled (_K : PySem.W.Frag) : GD := fun ds P => ∃ xs ps d cs, ds = [rD xs, .lst (ps.map pD), d] ∧ Ints d cs ∧ xs.length ≤ 1000 ∧ ∀ ys, Tr (mnd ps) xs ys → P (.mv (.olst (ys.map .int)))
/-! ### law_jostled -/
abbrev N_law_jostled : List Str := ["_law_row_here", "_law_pairs", "_law_script", "_law_found", "_law_cell", "_law_at"]
def T_law_jostled_f1 (K : PySem.W.Frag) : DS := (dSeq (dSet 5 (dFz (dOp (gI (fun _ j => j ≠ 0) fun i j => .int (i.fmod j)) (dOp (gI CDivN fun i j => .int (i.fdiv j)) (dVar 4) (dC (.int 5))) (dCB (gI2 fun i j => if j > i then j else i) (dCons (dC (.int 1)) (dCons (dOp (gI0 fun i j => .int (i - j)) (dCB gLen (dCons (dVar 3) dNil)) (dC (.int 1))) dNil))))))
  (dIfS (dTa (dT (dOp gLt (dOp gAdd (dVar 5) (dC (.int 1))) (dCB gLen (dCons (dVar 3) dNil)))) (dTn (dT (dCallB (G_law_mind K) (dCons (dVar 1) (dCons (dOp gIx (dVar 3) (dVar 5)) (dCons (dOp gIx (dVar 3) (dOp gAdd (dVar 5) (dC (.int 1)))) dNil))))))) (dSwap 3 (dVar 5) (dOp gAdd (dVar 5) (dC (.int 1))) (dTup (dCons (dOp gIx (dVar 3) (dOp gAdd (dVar 5) (dC (.int 1)))) (dCons (dOp gIx (dVar 3) (dVar 5)) dNil)))) dNx))
def T_law_jostled (K : PySem.W.Frag) : DS := (dSeq (dSet 3 (dCB gList (dCons (dVar 0) dNil)))
  (dSeq (dFor (dIl (dVar 2)) (dgN 4) (T_law_jostled_f1 K))
  (dRetM 3)))
theorem split_at {α : Type} {xs : List α} {p : Nat} (h : p + 1 < xs.length) : ∃ A a b B, xs = A ++ a :: b :: B ∧ A.length = p := by
  refine ⟨xs.take p, xs[p], xs[p + 1], xs.drop (p + 2), ?_, by rw [List.length_take]; omega⟩
  rw [← List.drop_eq_getElem_cons (by omega), ← List.drop_eq_getElem_cons (by omega), List.take_append_drop]
theorem at_mid {α : Type} {A B : List α} {a : α} : (A ++ a :: B)[A.length]? = some a := by
  rw [List.getElem?_append_right (Nat.le_refl _), Nat.sub_self]
  rfl
theorem at_mid1 {α : Type} {A B : List α} {a b : α} : (A ++ a :: b :: B)[A.length + 1]? = some b := by
  have e : A.length.succ - A.length = 1 := by omega
  rw [List.getElem?_append_right (Nat.le_succ _), e]
  rfl
theorem ixN_nat {n p : Nat} (h : p < n) : ixN n (p : Int) = some p := by
  unfold ixN
  rw [if_pos (by omega), if_pos (by omega)]
  rfl
theorem swap_mid {α : Type} {A B : List α} {a b : α} : ((A ++ a :: b :: B).set A.length b).set (A.length + 1) a = A ++ b :: a :: B := by
  have e : A.length.succ - A.length = 1 := by omega
  rw [List.set_append_right _ _ (Nat.le_refl _), Nat.sub_self, List.set_cons_zero, List.set_append_right _ _ (Nat.le_succ _), e]
  rfl
theorem jostle_st {K : PySem.W.Frag} {ps : List (Int × Int)} {xs : List Int} {row d : D} {c : Int} {E : EndsD} {e5 : DV} (hl : xs.length ≤ 1000) (h : ∀ ys v, Tr (mnd ps) xs ys → E.nx [.tr row, .tr (.lst (ps.map pD)), .tr d, .tr (.olst (ys.map .int)), .tr (.int c), .tr (.int v)]) :
    T_law_jostled_f1 K E [.tr row, .tr (.lst (ps.map pD)), .tr d, .tr (.olst (xs.map .int)), .tr (.int c), e5] := by
  simp only [T_law_jostled_f1, dSeq, dIfS, dT, dTn, dTa, dTo, dOp, dVar, dC, dFz_eq, dCB, dCons, dNil, dCall, dCallB, dMeth, dMethB, dSet, dApp, dExt, dRet, dRetM, dNx, dDrop, dNeg, dAnd, dOr, dNot, dIf, dCh, dCh3, dU, dTup, dLst, dFld, dIsi, dIl, dIe, dIr1, dIr2, dIv1, dgN, dgT, putAll, dFor, dPar2, dPar3, dSetT, dLc, dYes, dSl, dNo, dSome, dRev, dNev, dSset, dCount, dIndex, dLrg1, dLrg2, dTwo, un_non, un_int, un_bl, un_str, un_lst, un_tup, un_obj, un_dct, un_scr, un_olst, un_oll, un_oobj, un_mv, un_m, un_p, pl_non, pl_int, pl_bl, pl_str, pl_lst, pl_tup, pl_obj, pl_dct, pl_scr, pl_m, pl_p, fzm_non, fzm_int, fzm_bl, fzm_lst, fzm_tup, fzm_obj, fzm_scr, fzm_olst, fzm_oll, fzm_oobj, fzm_m, frz_non, frz_int, frz_bl, frz_str, frz_lst, frz_tup, frz_obj, frz_dct, frz_scr, frz_olst, frz_oll, frz_m, fz_no, fz_tr, see_no, see_tr, asB_bl, asI_int, asgD_non, asgD_int, asgD_bl, asgD_lst, asgD_tup, asgD_obj, asgD_mv, asgD_m, it_lst, it_olst, it_scr, li_lst, li_olst, pit_lst, pit_scr, sz_lst, sz_olst, sz_oll, sz_scr, sz_tup, ad_int, ad_ll, ad_oo, ad_lo, ad_ol, mu_int, mu_l, mu_o, gI_int, gI0_int, gI2_int, ii_eqv, co_int, co_bl, co_non, co_row, co_rowO, co_nil, co_nilO, co_ps, co_p, co_p2, co_rows, ev_ll, ev_ol, ev_lo, ev_oo, ev_ln, ev_lno, ev_on, ev_ono, in_ps, in_row, gEq, gNe, gIn, gNotIn, g1, g2, gLen, gList, δof, List.getElem?_cons_zero, List.getElem?_cons_succ, List.getElem?_nil, List.set_cons_zero, List.set_cons_succ, List.map_cons, List.map_nil, List.length_cons, List.length_nil, List.replicate_succ, List.replicate_zero, List.cons_append, List.nil_append, Option.bind_some, Option.bind_none, List.all_cons, List.all_nil, List.append_nil, Nat.reduceAdd, Nat.reduceSub, true_and, and_true, Bool.and_true, Bool.true_and]
  refine ⟨⟨by decide, by decide⟩, by split <;> omega, ?_⟩
  generalize hv : (c.fdiv 5).fmod _ = v
  have v0 : 0 ≤ v := by
    rw [← hv]
    exact Int.fmod_nonneg_of_pos _ (by split <;> omega)
  obtain ⟨p, rfl⟩ := Int.eq_ofNat_of_zero_le v0
  simp only [List.length_map]
  by_cases hp : p + 1 < xs.length
  · rw [decide_eq_true (by omega)]
    obtain ⟨A, a, b, B, rfl, rfl⟩ := split_at hp
    have e1 : ((A ++ a :: b :: B).map D.int)[A.length]? = some (.int a) := by rw [List.getElem?_map, at_mid]; rfl
    have e2 : ((A ++ a :: b :: B).map D.int)[A.length + 1]? = some (.int b) := by rw [List.getElem?_map, at_mid1]; rfl
    have q : ((A.length : Int) + 1) = ((A.length + 1 : Nat) : Int) := by omega
    simp only [q]
    refine ix_olst ⟨_, at_nat e1, ?_⟩
    simp only [dSeq, dIfS, dT, dTn, dTa, dTo, dOp, dVar, dC, dFz_eq, dCB, dCons, dNil, dCall, dCallB, dMeth, dMethB, dSet, dApp, dExt, dRet, dRetM, dNx, dDrop, dNeg, dAnd, dOr, dNot, dIf, dCh, dCh3, dU, dTup, dLst, dFld, dIsi, dIl, dIe, dIr1, dIr2, dIv1, dgN, dgT, putAll, dFor, dPar2, dPar3, dSetT, dLc, dYes, dSl, dNo, dSome, dRev, dNev, dSset, dCount, dIndex, dLrg1, dLrg2, dTwo, un_non, un_int, un_bl, un_str, un_lst, un_tup, un_obj, un_dct, un_scr, un_olst, un_oll, un_oobj, un_mv, un_m, un_p, pl_non, pl_int, pl_bl, pl_str, pl_lst, pl_tup, pl_obj, pl_dct, pl_scr, pl_m, pl_p, fzm_non, fzm_int, fzm_bl, fzm_lst, fzm_tup, fzm_obj, fzm_scr, fzm_olst, fzm_oll, fzm_oobj, fzm_m, frz_non, frz_int, frz_bl, frz_str, frz_lst, frz_tup, frz_obj, frz_dct, frz_scr, frz_olst, frz_oll, frz_m, fz_no, fz_tr, see_no, see_tr, asB_bl, asI_int, asgD_non, asgD_int, asgD_bl, asgD_lst, asgD_tup, asgD_obj, asgD_mv, asgD_m, it_lst, it_olst, it_scr, li_lst, li_olst, pit_lst, pit_scr, sz_lst, sz_olst, sz_oll, sz_scr, sz_tup, ad_int, ad_ll, ad_oo, ad_lo, ad_ol, mu_int, mu_l, mu_o, gI_int, gI0_int, gI2_int, ii_eqv, co_int, co_bl, co_non, co_row, co_rowO, co_nil, co_nilO, co_ps, co_p, co_p2, co_rows, ev_ll, ev_ol, ev_lo, ev_oo, ev_ln, ev_lno, ev_on, ev_ono, in_ps, in_row, gEq, gNe, gIn, gNotIn, g1, g2, gLen, gList, δof, List.getElem?_cons_zero, List.getElem?_cons_succ, List.getElem?_nil, List.set_cons_zero, List.set_cons_succ, List.map_cons, List.map_nil, List.length_cons, List.length_nil, List.replicate_succ, List.replicate_zero, List.cons_append, List.nil_append, Option.bind_some, Option.bind_none, List.all_cons, List.all_nil, List.append_nil, Nat.reduceAdd, Nat.reduceSub, true_and, and_true, Bool.and_true, Bool.true_and]
    refine ix_olst ⟨_, at_nat e2, ?_⟩
    simp only [dSeq, dIfS, dT, dTn, dTa, dTo, dOp, dVar, dC, dFz_eq, dCB, dCons, dNil, dCall, dCallB, dMeth, dMethB, dSet, dApp, dExt, dRet, dRetM, dNx, dDrop, dNeg, dAnd, dOr, dNot, dIf, dCh, dCh3, dU, dTup, dLst, dFld, dIsi, dIl, dIe, dIr1, dIr2, dIv1, dgN, dgT, putAll, dFor, dPar2, dPar3, dSetT, dLc, dYes, dSl, dNo, dSome, dRev, dNev, dSset, dCount, dIndex, dLrg1, dLrg2, dTwo, un_non, un_int, un_bl, un_str, un_lst, un_tup, un_obj, un_dct, un_scr, un_olst, un_oll, un_oobj, un_mv, un_m, un_p, pl_non, pl_int, pl_bl, pl_str, pl_lst, pl_tup, pl_obj, pl_dct, pl_scr, pl_m, pl_p, fzm_non, fzm_int, fzm_bl, fzm_lst, fzm_tup, fzm_obj, fzm_scr, fzm_olst, fzm_oll, fzm_oobj, fzm_m, frz_non, frz_int, frz_bl, frz_str, frz_lst, frz_tup, frz_obj, frz_dct, frz_scr, frz_olst, frz_oll, frz_m, fz_no, fz_tr, see_no, see_tr, asB_bl, asI_int, asgD_non, asgD_int, asgD_bl, asgD_lst, asgD_tup, asgD_obj, asgD_mv, asgD_m, it_lst, it_olst, it_scr, li_lst, li_olst, pit_lst, pit_scr, sz_lst, sz_olst, sz_oll, sz_scr, sz_tup, ad_int, ad_ll, ad_oo, ad_lo, ad_ol, mu_int, mu_l, mu_o, gI_int, gI0_int, gI2_int, ii_eqv, co_int, co_bl, co_non, co_row, co_rowO, co_nil, co_nilO, co_ps, co_p, co_p2, co_rows, ev_ll, ev_ol, ev_lo, ev_oo, ev_ln, ev_lno, ev_on, ev_ono, in_ps, in_row, gEq, gNe, gIn, gNotIn, g1, g2, gLen, gList, δof, List.getElem?_cons_zero, List.getElem?_cons_succ, List.getElem?_nil, List.set_cons_zero, List.set_cons_succ, List.map_cons, List.map_nil, List.length_cons, List.length_nil, List.replicate_succ, List.replicate_zero, List.cons_append, List.nil_append, Option.bind_some, Option.bind_none, List.all_cons, List.all_nil, List.append_nil, Nat.reduceAdd, Nat.reduceSub, true_and, and_true, Bool.and_true, Bool.true_and]
    refine ⟨ps, a, b, rfl, rfl, ?_⟩
    cases hm : mnd ps a b with
    | true =>
      simp only [dSeq, dIfS, dT, dTn, dTa, dTo, dOp, dVar, dC, dFz_eq, dCB, dCons, dNil, dCall, dCallB, dMeth, dMethB, dSet, dApp, dExt, dRet, dRetM, dNx, dDrop, dNeg, dAnd, dOr, dNot, dIf, dCh, dCh3, dU, dTup, dLst, dFld, dIsi, dIl, dIe, dIr1, dIr2, dIv1, dgN, dgT, putAll, dFor, dPar2, dPar3, dSetT, dLc, dYes, dSl, dNo, dSome, dRev, dNev, dSset, dCount, dIndex, dLrg1, dLrg2, dTwo, un_non, un_int, un_bl, un_str, un_lst, un_tup, un_obj, un_dct, un_scr, un_olst, un_oll, un_oobj, un_mv, un_m, un_p, pl_non, pl_int, pl_bl, pl_str, pl_lst, pl_tup, pl_obj, pl_dct, pl_scr, pl_m, pl_p, fzm_non, fzm_int, fzm_bl, fzm_lst, fzm_tup, fzm_obj, fzm_scr, fzm_olst, fzm_oll, fzm_oobj, fzm_m, frz_non, frz_int, frz_bl, frz_str, frz_lst, frz_tup, frz_obj, frz_dct, frz_scr, frz_olst, frz_oll, frz_m, fz_no, fz_tr, see_no, see_tr, asB_bl, asI_int, asgD_non, asgD_int, asgD_bl, asgD_lst, asgD_tup, asgD_obj, asgD_mv, asgD_m, it_lst, it_olst, it_scr, li_lst, li_olst, pit_lst, pit_scr, sz_lst, sz_olst, sz_oll, sz_scr, sz_tup, ad_int, ad_ll, ad_oo, ad_lo, ad_ol, mu_int, mu_l, mu_o, gI_int, gI0_int, gI2_int, ii_eqv, co_int, co_bl, co_non, co_row, co_rowO, co_nil, co_nilO, co_ps, co_p, co_p2, co_rows, ev_ll, ev_ol, ev_lo, ev_oo, ev_ln, ev_lno, ev_on, ev_ono, in_ps, in_row, gEq, gNe, gIn, gNotIn, g1, g2, gLen, gList, δof, List.getElem?_cons_zero, List.getElem?_cons_succ, List.getElem?_nil, List.set_cons_zero, List.set_cons_succ, List.map_cons, List.map_nil, List.length_cons, List.length_nil, List.replicate_succ, List.replicate_zero, List.cons_append, List.nil_append, Option.bind_some, Option.bind_none, List.all_cons, List.all_nil, List.append_nil, Nat.reduceAdd, Nat.reduceSub, true_and, and_true, Bool.and_true, Bool.true_and, Bool.not_true]
      exact h _ _ (.rfl _)
    | false =>
      simp only [dSeq, dIfS, dT, dTn, dTa, dTo, dOp, dVar, dC, dFz_eq, dCB, dCons, dNil, dCall, dCallB, dMeth, dMethB, dSet, dApp, dExt, dRet, dRetM, dNx, dDrop, dNeg, dAnd, dOr, dNot, dIf, dCh, dCh3, dU, dTup, dLst, dFld, dIsi, dIl, dIe, dIr1, dIr2, dIv1, dgN, dgT, putAll, dFor, dPar2, dPar3, dSetT, dLc, dYes, dSl, dNo, dSome, dRev, dNev, dSset, dCount, dIndex, dLrg1, dLrg2, dTwo, un_non, un_int, un_bl, un_str, un_lst, un_tup, un_obj, un_dct, un_scr, un_olst, un_oll, un_oobj, un_mv, un_m, un_p, pl_non, pl_int, pl_bl, pl_str, pl_lst, pl_tup, pl_obj, pl_dct, pl_scr, pl_m, pl_p, fzm_non, fzm_int, fzm_bl, fzm_lst, fzm_tup, fzm_obj, fzm_scr, fzm_olst, fzm_oll, fzm_oobj, fzm_m, frz_non, frz_int, frz_bl, frz_str, frz_lst, frz_tup, frz_obj, frz_dct, frz_scr, frz_olst, frz_oll, frz_m, fz_no, fz_tr, see_no, see_tr, asB_bl, asI_int, asgD_non, asgD_int, asgD_bl, asgD_lst, asgD_tup, asgD_obj, asgD_mv, asgD_m, it_lst, it_olst, it_scr, li_lst, li_olst, pit_lst, pit_scr, sz_lst, sz_olst, sz_oll, sz_scr, sz_tup, ad_int, ad_ll, ad_oo, ad_lo, ad_ol, mu_int, mu_l, mu_o, gI_int, gI0_int, gI2_int, ii_eqv, co_int, co_bl, co_non, co_row, co_rowO, co_nil, co_nilO, co_ps, co_p, co_p2, co_rows, ev_ll, ev_ol, ev_lo, ev_oo, ev_ln, ev_lno, ev_on, ev_ono, in_ps, in_row, gEq, gNe, gIn, gNotIn, g1, g2, gLen, gList, δof, List.getElem?_cons_zero, List.getElem?_cons_succ, List.getElem?_nil, List.set_cons_zero, List.set_cons_succ, List.map_cons, List.map_nil, List.length_cons, List.length_nil, List.replicate_succ, List.replicate_zero, List.cons_append, List.nil_append, Option.bind_some, Option.bind_none, List.all_cons, List.all_nil, List.append_nil, Nat.reduceAdd, Nat.reduceSub, true_and, and_true, Bool.and_true, Bool.true_and, Bool.not_false, dSwap, q]
      refine ix_olst ⟨_, at_nat e2, ?_⟩
      simp only [dSeq, dIfS, dT, dTn, dTa, dTo, dOp, dVar, dC, dFz_eq, dCB, dCons, dNil, dCall, dCallB, dMeth, dMethB, dSet, dApp, dExt, dRet, dRetM, dNx, dDrop, dNeg, dAnd, dOr, dNot, dIf, dCh, dCh3, dU, dTup, dLst, dFld, dIsi, dIl, dIe, dIr1, dIr2, dIv1, dgN, dgT, putAll, dFor, dPar2, dPar3, dSetT, dLc, dYes, dSl, dNo, dSome, dRev, dNev, dSset, dCount, dIndex, dLrg1, dLrg2, dTwo, un_non, un_int, un_bl, un_str, un_lst, un_tup, un_obj, un_dct, un_scr, un_olst, un_oll, un_oobj, un_mv, un_m, un_p, pl_non, pl_int, pl_bl, pl_str, pl_lst, pl_tup, pl_obj, pl_dct, pl_scr, pl_m, pl_p, fzm_non, fzm_int, fzm_bl, fzm_lst, fzm_tup, fzm_obj, fzm_scr, fzm_olst, fzm_oll, fzm_oobj, fzm_m, frz_non, frz_int, frz_bl, frz_str, frz_lst, frz_tup, frz_obj, frz_dct, frz_scr, frz_olst, frz_oll, frz_m, fz_no, fz_tr, see_no, see_tr, asB_bl, asI_int, asgD_non, asgD_int, asgD_bl, asgD_lst, asgD_tup, asgD_obj, asgD_mv, asgD_m, it_lst, it_olst, it_scr, li_lst, li_olst, pit_lst, pit_scr, sz_lst, sz_olst, sz_oll, sz_scr, sz_tup, ad_int, ad_ll, ad_oo, ad_lo, ad_ol, mu_int, mu_l, mu_o, gI_int, gI0_int, gI2_int, ii_eqv, co_int, co_bl, co_non, co_row, co_rowO, co_nil, co_nilO, co_ps, co_p, co_p2, co_rows, ev_ll, ev_ol, ev_lo, ev_oo, ev_ln, ev_lno, ev_on, ev_ono, in_ps, in_row, gEq, gNe, gIn, gNotIn, g1, g2, gLen, gList, δof, List.getElem?_cons_zero, List.getElem?_cons_succ, List.getElem?_nil, List.set_cons_zero, List.set_cons_succ, List.map_cons, List.map_nil, List.length_cons, List.length_nil, List.replicate_succ, List.replicate_zero, List.cons_append, List.nil_append, Option.bind_some, Option.bind_none, List.all_cons, List.all_nil, List.append_nil, Nat.reduceAdd, Nat.reduceSub, true_and, and_true, Bool.and_true, Bool.true_and]
      refine ix_olst ⟨_, at_nat e1, ?_⟩
      simp only [dSeq, dIfS, dT, dTn, dTa, dTo, dOp, dVar, dC, dFz_eq, dCB, dCons, dNil, dCall, dCallB, dMeth, dMethB, dSet, dApp, dExt, dRet, dRetM, dNx, dDrop, dNeg, dAnd, dOr, dNot, dIf, dCh, dCh3, dU, dTup, dLst, dFld, dIsi, dIl, dIe, dIr1, dIr2, dIv1, dgN, dgT, putAll, dFor, dPar2, dPar3, dSetT, dLc, dYes, dSl, dNo, dSome, dRev, dNev, dSset, dCount, dIndex, dLrg1, dLrg2, dTwo, un_non, un_int, un_bl, un_str, un_lst, un_tup, un_obj, un_dct, un_scr, un_olst, un_oll, un_oobj, un_mv, un_m, un_p, pl_non, pl_int, pl_bl, pl_str, pl_lst, pl_tup, pl_obj, pl_dct, pl_scr, pl_m, pl_p, fzm_non, fzm_int, fzm_bl, fzm_lst, fzm_tup, fzm_obj, fzm_scr, fzm_olst, fzm_oll, fzm_oobj, fzm_m, frz_non, frz_int, frz_bl, frz_str, frz_lst, frz_tup, frz_obj, frz_dct, frz_scr, frz_olst, frz_oll, frz_m, fz_no, fz_tr, see_no, see_tr, asB_bl, asI_int, asgD_non, asgD_int, asgD_bl, asgD_lst, asgD_tup, asgD_obj, asgD_mv, asgD_m, it_lst, it_olst, it_scr, li_lst, li_olst, pit_lst, pit_scr, sz_lst, sz_olst, sz_oll, sz_scr, sz_tup, ad_int, ad_ll, ad_oo, ad_lo, ad_ol, mu_int, mu_l, mu_o, gI_int, gI0_int, gI2_int, ii_eqv, co_int, co_bl, co_non, co_row, co_rowO, co_nil, co_nilO, co_ps, co_p, co_p2, co_rows, ev_ll, ev_ol, ev_lo, ev_oo, ev_ln, ev_lno, ev_on, ev_ono, in_ps, in_row, gEq, gNe, gIn, gNotIn, g1, g2, gLen, gList, δof, List.getElem?_cons_zero, List.getElem?_cons_succ, List.getElem?_nil, List.set_cons_zero, List.set_cons_succ, List.map_cons, List.map_nil, List.length_cons, List.length_nil, List.replicate_succ, List.replicate_zero, List.cons_append, List.nil_append, Option.bind_some, Option.bind_none, List.all_cons, List.all_nil, List.append_nil, Nat.reduceAdd, Nat.reduceSub, true_and, and_true, Bool.and_true, Bool.true_and, setAt, q]
      refine ⟨by decide, ?_⟩
      rw [ixN_nat (by rw [List.length_map]; omega)]
      simp only [dSeq, dIfS, dT, dTn, dTa, dTo, dOp, dVar, dC, dFz_eq, dCB, dCons, dNil, dCall, dCallB, dMeth, dMethB, dSet, dApp, dExt, dRet, dRetM, dNx, dDrop, dNeg, dAnd, dOr, dNot, dIf, dCh, dCh3, dU, dTup, dLst, dFld, dIsi, dIl, dIe, dIr1, dIr2, dIv1, dgN, dgT, putAll, dFor, dPar2, dPar3, dSetT, dLc, dYes, dSl, dNo, dSome, dRev, dNev, dSset, dCount, dIndex, dLrg1, dLrg2, dTwo, un_non, un_int, un_bl, un_str, un_lst, un_tup, un_obj, un_dct, un_scr, un_olst, un_oll, un_oobj, un_mv, un_m, un_p, pl_non, pl_int, pl_bl, pl_str, pl_lst, pl_tup, pl_obj, pl_dct, pl_scr, pl_m, pl_p, fzm_non, fzm_int, fzm_bl, fzm_lst, fzm_tup, fzm_obj, fzm_scr, fzm_olst, fzm_oll, fzm_oobj, fzm_m, frz_non, frz_int, frz_bl, frz_str, frz_lst, frz_tup, frz_obj, frz_dct, frz_scr, frz_olst, frz_oll, frz_m, fz_no, fz_tr, see_no, see_tr, asB_bl, asI_int, asgD_non, asgD_int, asgD_bl, asgD_lst, asgD_tup, asgD_obj, asgD_mv, asgD_m, it_lst, it_olst, it_scr, li_lst, li_olst, pit_lst, pit_scr, sz_lst, sz_olst, sz_oll, sz_scr, sz_tup, ad_int, ad_ll, ad_oo, ad_lo, ad_ol, mu_int, mu_l, mu_o, gI_int, gI0_int, gI2_int, ii_eqv, co_int, co_bl, co_non, co_row, co_rowO, co_nil, co_nilO, co_ps, co_p, co_p2, co_rows, ev_ll, ev_ol, ev_lo, ev_oo, ev_ln, ev_lno, ev_on, ev_ono, in_ps, in_row, gEq, gNe, gIn, gNotIn, g1, g2, gLen, gList, δof, List.getElem?_cons_zero, List.getElem?_cons_succ, List.getElem?_nil, List.set_cons_zero, List.set_cons_succ, List.map_cons, List.map_nil, List.length_cons, List.length_nil, List.replicate_succ, List.replicate_zero, List.cons_append, List.nil_append, Option.bind_some, Option.bind_none, List.all_cons, List.all_nil, List.append_nil, Nat.reduceAdd, Nat.reduceSub, true_and, and_true, Bool.and_true, Bool.true_and]
      rw [ixN_nat (by rw [List.length_set, List.length_map]; omega)]
      simp only [dSeq, dIfS, dT, dTn, dTa, dTo, dOp, dVar, dC, dFz_eq, dCB, dCons, dNil, dCall, dCallB, dMeth, dMethB, dSet, dApp, dExt, dRet, dRetM, dNx, dDrop, dNeg, dAnd, dOr, dNot, dIf, dCh, dCh3, dU, dTup, dLst, dFld, dIsi, dIl, dIe, dIr1, dIr2, dIv1, dgN, dgT, putAll, dFor, dPar2, dPar3, dSetT, dLc, dYes, dSl, dNo, dSome, dRev, dNev, dSset, dCount, dIndex, dLrg1, dLrg2, dTwo, un_non, un_int, un_bl, un_str, un_lst, un_tup, un_obj, un_dct, un_scr, un_olst, un_oll, un_oobj, un_mv, un_m, un_p, pl_non, pl_int, pl_bl, pl_str, pl_lst, pl_tup, pl_obj, pl_dct, pl_scr, pl_m, pl_p, fzm_non, fzm_int, fzm_bl, fzm_lst, fzm_tup, fzm_obj, fzm_scr, fzm_olst, fzm_oll, fzm_oobj, fzm_m, frz_non, frz_int, frz_bl, frz_str, frz_lst, frz_tup, frz_obj, frz_dct, frz_scr, frz_olst, frz_oll, frz_m, fz_no, fz_tr, see_no, see_tr, asB_bl, asI_int, asgD_non, asgD_int, asgD_bl, asgD_lst, asgD_tup, asgD_obj, asgD_mv, asgD_m, it_lst, it_olst, it_scr, li_lst, li_olst, pit_lst, pit_scr, sz_lst, sz_olst, sz_oll, sz_scr, sz_tup, ad_int, ad_ll, ad_oo, ad_lo, ad_ol, mu_int, mu_l, mu_o, gI_int, gI0_int, gI2_int, ii_eqv, co_int, co_bl, co_non, co_row, co_rowO, co_nil, co_nilO, co_ps, co_p, co_p2, co_rows, ev_ll, ev_ol, ev_lo, ev_oo, ev_ln, ev_lno, ev_on, ev_ono, in_ps, in_row, gEq, gNe, gIn, gNotIn, g1, g2, gLen, gList, δof, List.getElem?_cons_zero, List.getElem?_cons_succ, List.getElem?_nil, List.set_cons_zero, List.set_cons_succ, List.map_cons, List.map_nil, List.length_cons, List.length_nil, List.replicate_succ, List.replicate_zero, List.cons_append, List.nil_append, Option.bind_some, Option.bind_none, List.all_cons, List.all_nil, List.append_nil, Nat.reduceAdd, Nat.reduceSub, true_and, and_true, Bool.and_true, Bool.true_and]
      have z := h _ (A.length : Int) (Tr.one (m := mnd ps) (A := A) (B := B) hm)
      rw [← swap_mid, List.map_set, List.map_set] at z
      exact z
  · rw [decide_eq_false (by omega)]
    exact h _ _ (.rfl _)
theorem jostle_f {K : PySem.W.Frag} {ps : List (Int × Int)} {row d : D} {E : EndsD} {xs : List Int} (h : ∀ ys e4 e5, Tr (mnd ps) xs ys → E.nx [.tr row, .tr (.lst (ps.map pD)), .tr d, .tr (.olst (ys.map .int)), e4, e5]) : ∀ (cs : List Int) (ys : List Int) (e4 e5 : DV), ys.length ≤ 1000 → Tr (mnd ps) xs ys →
    forGo (dgN 4) (T_law_jostled_f1 K) E (cs.map .int) [.tr row, .tr (.lst (ps.map pD)), .tr d, .tr (.olst (ys.map .int)), e4, e5]
  | [], ys, e4, e5, hl, ht => h ys e4 e5 ht
  | c :: cs, ys, e4, e5, hl, ht => by
    refine forGo_op fun N hN => ?_
    simp only [dSeq, dIfS, dT, dTn, dTa, dTo, dOp, dVar, dC, dFz_eq, dCB, dCons, dNil, dCall, dCallB, dMeth, dMethB, dSet, dApp, dExt, dRet, dRetM, dNx, dDrop, dNeg, dAnd, dOr, dNot, dIf, dCh, dCh3, dU, dTup, dLst, dFld, dIsi, dIl, dIe, dIr1, dIr2, dIv1, dgN, dgT, putAll, dFor, dPar2, dPar3, dSetT, dLc, dYes, dSl, dNo, dSome, dRev, dNev, dSset, dCount, dIndex, dLrg1, dLrg2, dTwo, un_non, un_int, un_bl, un_str, un_lst, un_tup, un_obj, un_dct, un_scr, un_olst, un_oll, un_oobj, un_mv, un_m, un_p, pl_non, pl_int, pl_bl, pl_str, pl_lst, pl_tup, pl_obj, pl_dct, pl_scr, pl_m, pl_p, fzm_non, fzm_int, fzm_bl, fzm_lst, fzm_tup, fzm_obj, fzm_scr, fzm_olst, fzm_oll, fzm_oobj, fzm_m, frz_non, frz_int, frz_bl, frz_str, frz_lst, frz_tup, frz_obj, frz_dct, frz_scr, frz_olst, frz_oll, frz_m, fz_no, fz_tr, see_no, see_tr, asB_bl, asI_int, asgD_non, asgD_int, asgD_bl, asgD_lst, asgD_tup, asgD_obj, asgD_mv, asgD_m, it_lst, it_olst, it_scr, li_lst, li_olst, pit_lst, pit_scr, sz_lst, sz_olst, sz_oll, sz_scr, sz_tup, ad_int, ad_ll, ad_oo, ad_lo, ad_ol, mu_int, mu_l, mu_o, gI_int, gI0_int, gI2_int, ii_eqv, co_int, co_bl, co_non, co_row, co_rowO, co_nil, co_nilO, co_ps, co_p, co_p2, co_rows, ev_ll, ev_ol, ev_lo, ev_oo, ev_ln, ev_lno, ev_on, ev_ono, in_ps, in_row, gEq, gNe, gIn, gNotIn, g1, g2, gLen, gList, δof, List.getElem?_cons_zero, List.getElem?_cons_succ, List.getElem?_nil, List.set_cons_zero, List.set_cons_succ, List.map_cons, List.map_nil, List.length_cons, List.length_nil, List.replicate_succ, List.replicate_zero, List.cons_append, List.nil_append, Option.bind_some, Option.bind_none, List.all_cons, List.all_nil, List.append_nil, Nat.reduceAdd, Nat.reduceSub, true_and, and_true, Bool.and_true, Bool.true_and]
    refine jostle_st (K := K) hl fun zs v hz => ?_
    rw [hN]
    exact jostle_f h cs zs _ _ (by rw [← hz.len]; exact hl) (ht.trans hz)
theorem rd_law_jostled {K : PySem.W.Frag} : ∀ ds Q, G_law_jostled K ds Q → T_law_jostled K { nx := fun _ => Q .non, rt := Q } (δof N_law_jostled.length ds) := by
  rintro _ Q ⟨xs, ps, d, cs, rfl, ⟨h1, h2, h3, h4, h5, h6⟩, hl, h⟩
  simp only [T_law_jostled, rD, dSeq, dIfS, dT, dTn, dTa, dTo, dOp, dVar, dC, dFz_eq, dCB, dCons, dNil, dCall, dCallB, dMeth, dMethB, dSet, dApp, dExt, dRet, dRetM, dNx, dDrop, dNeg, dAnd, dOr, dNot, dIf, dCh, dCh3, dU, dTup, dLst, dFld, dIsi, dIl, dIe, dIr1, dIr2, dIv1, dgN, dgT, putAll, dFor, dPar2, dPar3, dSetT, dLc, dYes, dSl, dNo, dSome, dRev, dNev, dSset, dCount, dIndex, dLrg1, dLrg2, dTwo, un_non, un_int, un_bl, un_str, un_lst, un_tup, un_obj, un_dct, un_scr, un_olst, un_oll, un_oobj, un_mv, un_m, un_p, pl_non, pl_int, pl_bl, pl_str, pl_lst, pl_tup, pl_obj, pl_dct, pl_scr, pl_m, pl_p, fzm_non, fzm_int, fzm_bl, fzm_lst, fzm_tup, fzm_obj, fzm_scr, fzm_olst, fzm_oll, fzm_oobj, fzm_m, frz_non, frz_int, frz_bl, frz_str, frz_lst, frz_tup, frz_obj, frz_dct, frz_scr, frz_olst, frz_oll, frz_m, fz_no, fz_tr, see_no, see_tr, asB_bl, asI_int, asgD_non, asgD_int, asgD_bl, asgD_lst, asgD_tup, asgD_obj, asgD_mv, asgD_m, it_lst, it_olst, it_scr, li_lst, li_olst, pit_lst, pit_scr, sz_lst, sz_olst, sz_oll, sz_scr, sz_tup, ad_int, ad_ll, ad_oo, ad_lo, ad_ol, mu_int, mu_l, mu_o, gI_int, gI0_int, gI2_int, ii_eqv, co_int, co_bl, co_non, co_row, co_rowO, co_nil, co_nilO, co_ps, co_p, co_p2, co_rows, ev_ll, ev_ol, ev_lo, ev_oo, ev_ln, ev_lno, ev_on, ev_ono, in_ps, in_row, gEq, gNe, gIn, gNotIn, g1, g2, gLen, gList, δof, List.getElem?_cons_zero, List.getElem?_cons_succ, List.getElem?_nil, List.set_cons_zero, List.set_cons_succ, List.map_cons, List.map_nil, List.length_cons, List.length_nil, List.replicate_succ, List.replicate_zero, List.cons_append, List.nil_append, Option.bind_some, Option.bind_none, List.all_cons, List.all_nil, List.append_nil, Nat.reduceAdd, Nat.reduceSub, true_and, and_true, Bool.and_true, Bool.true_and, h3, h1]
  refine jostle_f (K := K) (fun ys e4 e5 ht => ?_) cs xs _ _ hl (.rfl _)
  simp only [dSeq, dIfS, dT, dTn, dTa, dTo, dOp, dVar, dC, dFz_eq, dCB, dCons, dNil, dCall, dCallB, dMeth, dMethB, dSet, dApp, dExt, dRet, dRetM, dNx, dDrop, dNeg, dAnd, dOr, dNot, dIf, dCh, dCh3, dU, dTup, dLst, dFld, dIsi, dIl, dIe, dIr1, dIr2, dIv1, dgN, dgT, putAll, dFor, dPar2, dPar3, dSetT, dLc, dYes, dSl, dNo, dSome, dRev, dNev, dSset, dCount, dIndex, dLrg1, dLrg2, dTwo, un_non, un_int, un_bl, un_str, un_lst, un_tup, un_obj, un_dct, un_scr, un_olst, un_oll, un_oobj, un_mv, un_m, un_p, pl_non, pl_int, pl_bl, pl_str, pl_lst, pl_tup, pl_obj, pl_dct, pl_scr, pl_m, pl_p, fzm_non, fzm_int, fzm_bl, fzm_lst, fzm_tup, fzm_obj, fzm_scr, fzm_olst, fzm_oll, fzm_oobj, fzm_m, frz_non, frz_int, frz_bl, frz_str, frz_lst, frz_tup, frz_obj, frz_dct, frz_scr, frz_olst, frz_oll, frz_m, fz_no, fz_tr, see_no, see_tr, asB_bl, asI_int, asgD_non, asgD_int, asgD_bl, asgD_lst, asgD_tup, asgD_obj, asgD_mv, asgD_m, it_lst, it_olst, it_scr, li_lst, li_olst, pit_lst, pit_scr, sz_lst, sz_olst, sz_oll, sz_scr, sz_tup, ad_int, ad_ll, ad_oo, ad_lo, ad_ol, mu_int, mu_l, mu_o, gI_int, gI0_int, gI2_int, ii_eqv, co_int, co_bl, co_non, co_row, co_rowO, co_nil, co_nilO, co_ps, co_p, co_p2, co_rows, ev_ll, ev_ol, ev_lo, ev_oo, ev_ln, ev_lno, ev_on, ev_ono, in_ps, in_row, gEq, gNe, gIn, gNotIn, g1, g2, gLen, gList, δof, List.getElem?_cons_zero, List.getElem?_cons_succ, List.getElem?_nil, List.set_cons_zero, List.set_cons_succ, List.map_cons, List.map_nil, List.length_cons, List.length_nil, List.replicate_succ, List.replicate_zero, List.cons_append, List.nil_append, Option.bind_some, Option.bind_none, List.all_cons, List.all_nil, List.append_nil, Nat.reduceAdd, Nat.reduceSub, true_and, and_true, Bool.and_true, Bool.true_and]
  exact h ys ht
theorem kinds_row {ns : List Int} {n bY : Int} (h : 1 ≤ n) : Kinds n (rowOf ns n bY) := fun x hx => by
  obtain ⟨c, _, rfl⟩ := List.mem_map.mp hx
  exact ⟨Int.fmod_nonneg_of_pos _ (by omega), Int.fmod_lt_of_pos _ (by omega)⟩
theorem row_len {ns : List Int} {n bY : Int} : (rowOf ns n bY).length = ns.length := List.length_map _
theorem Kinds.tr {m : Int → Int → Bool} {n : Int} {xs ys : List Int} (h : Kinds n xs) (t : Tr m xs ys) : Kinds n ys := fun x hx => h x (t.perm.mem_iff.mpr hx)
end J
/-! P3: kinds and pairs by a script -/
namespace J
open PySem PySem.Spec PyProof.Rows L2
def G_law_minds (_K : PySem.W.Frag) : GD := fun ds P => ∃ ns, ds = [.scr ns] ∧ ns.length ≤ 63 ∧ ∀ n ps, 1 ≤ n → n ≤ 64 → PairsOk n ps → P (.tup [.int n, .lst (ps.map pD)])
/-! ### law_minds -/
abbrev N_law_minds : List Str := ["_law_script", "_law_kinds", "_law_code", "_law_pairs", "_law_cell", "_law_one", "_law_other", "_law_pair"]
def T_law_minds_f1 (K : PySem.W.Frag) : DS := (dSeq (dPar2 5 6 (dFz (dOp (gI (fun _ j => j ≠ 0) fun i j => .int (i.fmod j)) (dOp (gI CDivN fun i j => .int (i.fdiv j)) (dVar 4) (dC (.int 90))) (dVar 1))) (dFz (dOp (gI (fun _ j => j ≠ 0) fun i j => .int (i.fmod j)) (dOp (gI CDivN fun i j => .int (i.fdiv j)) (dOp (gI CDivN fun i j => .int (i.fdiv j)) (dVar 4) (dC (.int 90))) (dVar 1)) (dVar 1))))
  (dApp 3 (dTup (dCons (dFz (dCB (gI2 fun i j => if j < i then j else i) (dCons (dVar 5) (dCons (dVar 6) dNil)))) (dCons (dFz (dCB (gI2 fun i j => if j > i then j else i) (dCons (dVar 5) (dCons (dVar 6) dNil)))) dNil)))))
def T_law_minds_c2 (K : PySem.W.Frag) : DE := (dVar 7)
def T_law_minds_c2t (K : PySem.W.Frag) : DT := (dT (dOp gLt (dOp gIx (dVar 7) (dC (.int 0))) (dOp gIx (dVar 7) (dC (.int 1)))))
def T_law_minds_f3 (K : PySem.W.Frag) : DS := (dSeq (dIfS (dT (dOp gLt (dOp (gI (fun _ j => j ≠ 0) fun i j => .int (i.fmod j)) (dVar 2) (dC (.int 5))) (dC (.int 2)))) (dApp 3 (dTup (dCons (dVar 5) (dCons (dVar 6) dNil)))) dNx)
  (dSet 2 (dFz (dOp gAdd (dOp (gI CDivN fun i j => .int (i.fdiv j)) (dVar 2) (dC (.int 3))) (dOp gMul (dC (.int 7)) (dVar 6))))))
def T_law_minds_f4 (K : PySem.W.Frag) : DS := (dFor (dIr2 (dCons (dOp gAdd (dVar 5) (dC (.int 1))) (dCons (dVar 1) dNil))) (dgN 6) (T_law_minds_f3 K))
def T_law_minds (K : PySem.W.Frag) : DS := (dSeq (dPar3 1 2 3 (dFz (dOp gAdd (dC (.int 1)) (dOp (gI (fun _ j => j ≠ 0) fun i j => .int (i.fmod j)) (dCB gSum (dCons (dVar 0) dNil)) (dC (.int 6))))) (dFz (dOp gAdd (dOp (gI CDivN fun i j => .int (i.fdiv j)) (dCB gSum (dCons (dVar 0) dNil)) (dC (.int 6))) (dCB gLen (dCons (dVar 0) dNil)))) (dLst dNil))
  (dSeq (dIfS (dT (dOp gEq (dOp (gI (fun _ j => j ≠ 0) fun i j => .int (i.fmod j)) (dVar 2) (dC (.int 3))) (dC (.int 2)))) (dSeq (dSet 1 (dFz (dOp gAdd (dC (.int 1)) (dOp (gI (fun _ j => j ≠ 0) fun i j => .int (i.fmod j)) (dOp (gI CDivN fun i j => .int (i.fdiv j)) (dVar 2) (dC (.int 3))) (dOp gAdd (dCB gLen (dCons (dVar 0) dNil)) (dC (.int 1)))))))
  (dSeq (dFor (dIl (dFz (dTwo (dVar 0)))) (dgN 4) (T_law_minds_f1 K))
  (dRet (dTup (dCons (dVar 1) (dCons (dFz (dSsetP (dLc 7 (dIl (dVar 3)) (T_law_minds_c2t K) (T_law_minds_c2 K)))) dNil)))))) dNx)
  (dSeq (dFor (dIr1 (dCons (dVar 1) dNil)) (dgN 5) (T_law_minds_f4 K))
  (dRet (dTup (dCons (dVar 1) (dCons (dVar 3) dNil)))))))
theorem fmod_nn (a : Int) {b : Int} (h : 0 < b) : 0 ≤ a.fmod b := Int.fmod_nonneg_of_pos _ h
theorem fmod_lt (a : Int) {b : Int} (h : 0 < b) : a.fmod b < b := Int.fmod_lt_of_pos _ h
/-! the pairs of a walk over cells -/
theorem minds_f1 {K : PySem.W.Frag} {n : Int} {d0 d2 : D} {E : EndsD} (hn : 1 ≤ n) (hn2 : n ≤ 64) (h : ∀ (qs : List (Int × Int)) e4 e5 e6 e7, qs.length < 64 → (∀ q ∈ qs, (0 ≤ q.1 ∧ q.1 < n) ∧ (0 ≤ q.2 ∧ q.2 < n)) → E.nx [.tr d0, .tr (.int n), .tr d2, .tr (.olst (qs.map pD)), e4, e5, e6, e7]) :
    ∀ (cs : List Int) (qs : List (Int × Int)) (e4 e5 e6 e7 : DV), qs.length + cs.length < 64 → (∀ q ∈ qs, (0 ≤ q.1 ∧ q.1 < n) ∧ (0 ≤ q.2 ∧ q.2 < n)) → forGo (dgN 4) (T_law_minds_f1 K) E (cs.map .int) [.tr d0, .tr (.int n), .tr d2, .tr (.olst (qs.map pD)), e4, e5, e6, e7]
  | [], qs, e4, e5, e6, e7, hl, hq => h qs e4 e5 e6 e7 (by simpa using hl) hq
  | c :: cs, qs, e4, e5, e6, e7, hl, hq => by
    rw [List.length_cons] at hl
    refine forGo_op fun N hN => ?_
    simp only [T_law_minds_f1, dSeq, dIfS, dT, dTn, dTa, dTo, dOp, dVar, dC, dFz_eq, dCB, dCons, dNil, dCall, dCallB, dMeth, dMethB, dSet, dApp, dExt, dRet, dRetM, dNx, dDrop, dNeg, dAnd, dOr, dNot, dIf, dCh, dCh3, dU, dTup, dLst, dFld, dIsi, dIl, dIe, dIr1, dIr2, dIv1, dgN, dgT, putAll, dFor, dPar2, dPar3, dSetT, dLc, dYes, dSl, dNo, dSome, dRev, dNev, dSset, dCount, dIndex, dLrg1, dLrg2, dTwo, un_non, un_int, un_bl, un_str, un_lst, un_tup, un_obj, un_dct, un_scr, un_olst, un_oll, un_oobj, un_mv, un_m, un_p, pl_non, pl_int, pl_bl, pl_str, pl_lst, pl_tup, pl_obj, pl_dct, pl_scr, pl_m, pl_p, fzm_non, fzm_int, fzm_bl, fzm_lst, fzm_tup, fzm_obj, fzm_scr, fzm_olst, fzm_oll, fzm_oobj, fzm_m, frz_non, frz_int, frz_bl, frz_str, frz_lst, frz_tup, frz_obj, frz_dct, frz_scr, frz_olst, frz_oll, frz_m, fz_no, fz_tr, see_no, see_tr, asB_bl, asI_int, asgD_non, asgD_int, asgD_bl, asgD_lst, asgD_tup, asgD_obj, asgD_mv, asgD_m, it_lst, it_olst, it_scr, li_lst, li_olst, pit_lst, pit_scr, sz_lst, sz_olst, sz_oll, sz_scr, sz_tup, ad_int, ad_ll, ad_oo, ad_lo, ad_ol, mu_int, mu_l, mu_o, gI_int, gI0_int, gI2_int, ii_eqv, co_int, co_bl, co_non, co_row, co_rowO, co_nil, co_nilO, co_ps, co_p, co_p2, co_rows, ev_ll, ev_ol, ev_lo, ev_oo, ev_ln, ev_lno, ev_on, ev_ono, in_ps, in_row, gEq, gNe, gIn, gNotIn, g1, g2, gLen, gList, δof, List.getElem?_cons_zero, List.getElem?_cons_succ, List.getElem?_nil, List.set_cons_zero, List.set_cons_succ, List.map_cons, List.map_nil, List.length_cons, List.length_nil, List.replicate_succ, List.replicate_zero, List.cons_append, List.nil_append, Option.bind_some, Option.bind_none, List.all_cons, List.all_nil, List.append_nil, Nat.reduceAdd, Nat.reduceSub, true_and, and_true, Bool.and_true, Bool.true_and]
    refine ⟨⟨by decide, by decide⟩, by omega, ⟨by decide, by decide⟩, ⟨by omega, by omega⟩, by omega, by rw [List.length_map]; omega, by decide, ?_⟩
    have a0 := fmod_nn (c.fdiv 90) (b := n) (by omega)
    have a1 := fmod_lt (c.fdiv 90) (b := n) (by omega)
    have b0 := fmod_nn ((c.fdiv 90).fdiv n) (b := n) (by omega)
    have b1 := fmod_lt ((c.fdiv 90).fdiv n) (b := n) (by omega)
    generalize (c.fdiv 90).fmod n = a at *
    generalize ((c.fdiv 90).fdiv n).fmod n = b at *
    rw [hN]
    have z := minds_f1 (K := K) (d0 := d0) (d2 := d2) (E := E) hn hn2 h cs (qs ++ [(if b < a then b else a, if b > a then b else a)]) (.tr (.int c)) (.tr (.int a)) (.tr (.int b)) e7 (by rw [List.length_append, List.length_cons, List.length_nil]; omega) fun q hq2 => by
      rcases List.mem_append.mp hq2 with hq2 | hq2
      · exact hq q hq2
      · rw [List.mem_singleton.mp hq2]
        refine ⟨⟨?_, ?_⟩, ?_, ?_⟩ <;> (dsimp only; split <;> omega)
    rw [List.map_append] at z
    exact z
theorem minds_c2 {K : PySem.W.Frag} {P : D → Prop} {e0 e1 e2 e3 e4 e5 e6 : DV} : ∀ (qs acc : List (Int × Int)) (e7 : DV), acc.length + qs.length ≤ 1000 → P (.mv (.olst ((acc ++ qs.filter fun q => decide (q.1 < q.2)).map pD))) → compGo 7 (T_law_minds_c2t K) (T_law_minds_c2 K) P (qs.map pD) (acc.map pD) [e0, e1, e2, e3, e4, e5, e6, e7]
  | [], acc, e7, _, h => by
    rw [List.filter_nil, List.append_nil] at h
    exact h
  | q :: qs, acc, e7, hl, h => by
    rw [List.length_cons] at hl
    refine compGo_op fun N hN => ?_
    simp only [T_law_minds_c2t, T_law_minds_c2, dSeq, dIfS, dT, dTn, dTa, dTo, dOp, dVar, dC, dFz_eq, dCB, dCons, dNil, dCall, dCallB, dMeth, dMethB, dSet, dApp, dExt, dRet, dRetM, dNx, dDrop, dNeg, dAnd, dOr, dNot, dIf, dCh, dCh3, dU, dTup, dLst, dFld, dIsi, dIl, dIe, dIr1, dIr2, dIv1, dgN, dgT, putAll, dFor, dPar2, dPar3, dSetT, dLc, dYes, dSl, dNo, dSome, dRev, dNev, dSset, dCount, dIndex, dLrg1, dLrg2, dTwo, un_non, un_int, un_bl, un_str, un_lst, un_tup, un_obj, un_dct, un_scr, un_olst, un_oll, un_oobj, un_mv, un_m, un_p, pl_non, pl_int, pl_bl, pl_str, pl_lst, pl_tup, pl_obj, pl_dct, pl_scr, pl_m, pl_p, fzm_non, fzm_int, fzm_bl, fzm_lst, fzm_tup, fzm_obj, fzm_scr, fzm_olst, fzm_oll, fzm_oobj, fzm_m, frz_non, frz_int, frz_bl, frz_str, frz_lst, frz_tup, frz_obj, frz_dct, frz_scr, frz_olst, frz_oll, frz_m, fz_no, fz_tr, see_no, see_tr, asB_bl, asI_int, asgD_non, asgD_int, asgD_bl, asgD_lst, asgD_tup, asgD_obj, asgD_mv, asgD_m, it_lst, it_olst, it_scr, li_lst, li_olst, pit_lst, pit_scr, sz_lst, sz_olst, sz_oll, sz_scr, sz_tup, ad_int, ad_ll, ad_oo, ad_lo, ad_ol, mu_int, mu_l, mu_o, gI_int, gI0_int, gI2_int, ii_eqv, co_int, co_bl, co_non, co_row, co_rowO, co_nil, co_nilO, co_ps, co_p, co_p2, co_rows, ev_ll, ev_ol, ev_lo, ev_oo, ev_ln, ev_lno, ev_on, ev_ono, in_ps, in_row, gEq, gNe, gIn, gNotIn, g1, g2, gLen, gList, δof, List.getElem?_cons_zero, List.getElem?_cons_succ, List.getElem?_nil, List.set_cons_zero, List.set_cons_succ, List.map_cons, List.map_nil, List.length_cons, List.length_nil, List.replicate_succ, List.replicate_zero, List.cons_append, List.nil_append, Option.bind_some, Option.bind_none, List.all_cons, List.all_nil, List.append_nil, Nat.reduceAdd, Nat.reduceSub, true_and, and_true, Bool.and_true, Bool.true_and]
    refine ix_tup ⟨_, at_zero, ?_⟩
    simp only [dSeq, dIfS, dT, dTn, dTa, dTo, dOp, dVar, dC, dFz_eq, dCB, dCons, dNil, dCall, dCallB, dMeth, dMethB, dSet, dApp, dExt, dRet, dRetM, dNx, dDrop, dNeg, dAnd, dOr, dNot, dIf, dCh, dCh3, dU, dTup, dLst, dFld, dIsi, dIl, dIe, dIr1, dIr2, dIv1, dgN, dgT, putAll, dFor, dPar2, dPar3, dSetT, dLc, dYes, dSl, dNo, dSome, dRev, dNev, dSset, dCount, dIndex, dLrg1, dLrg2, dTwo, un_non, un_int, un_bl, un_str, un_lst, un_tup, un_obj, un_dct, un_scr, un_olst, un_oll, un_oobj, un_mv, un_m, un_p, pl_non, pl_int, pl_bl, pl_str, pl_lst, pl_tup, pl_obj, pl_dct, pl_scr, pl_m, pl_p, fzm_non, fzm_int, fzm_bl, fzm_lst, fzm_tup, fzm_obj, fzm_scr, fzm_olst, fzm_oll, fzm_oobj, fzm_m, frz_non, frz_int, frz_bl, frz_str, frz_lst, frz_tup, frz_obj, frz_dct, frz_scr, frz_olst, frz_oll, frz_m, fz_no, fz_tr, see_no, see_tr, asB_bl, asI_int, asgD_non, asgD_int, asgD_bl, asgD_lst, asgD_tup, asgD_obj, asgD_mv, asgD_m, it_lst, it_olst, it_scr, li_lst, li_olst, pit_lst, pit_scr, sz_lst, sz_olst, sz_oll, sz_scr, sz_tup, ad_int, ad_ll, ad_oo, ad_lo, ad_ol, mu_int, mu_l, mu_o, gI_int, gI0_int, gI2_int, ii_eqv, co_int, co_bl, co_non, co_row, co_rowO, co_nil, co_nilO, co_ps, co_p, co_p2, co_rows, ev_ll, ev_ol, ev_lo, ev_oo, ev_ln, ev_lno, ev_on, ev_ono, in_ps, in_row, gEq, gNe, gIn, gNotIn, g1, g2, gLen, gList, δof, List.getElem?_cons_zero, List.getElem?_cons_succ, List.getElem?_nil, List.set_cons_zero, List.set_cons_succ, List.map_cons, List.map_nil, List.length_cons, List.length_nil, List.replicate_succ, List.replicate_zero, List.cons_append, List.nil_append, Option.bind_some, Option.bind_none, List.all_cons, List.all_nil, List.append_nil, Nat.reduceAdd, Nat.reduceSub, true_and, and_true, Bool.and_true, Bool.true_and]
    refine ix_tup ⟨_, at_nat (i := 1) rfl, ?_⟩
    simp only [dSeq, dIfS, dT, dTn, dTa, dTo, dOp, dVar, dC, dFz_eq, dCB, dCons, dNil, dCall, dCallB, dMeth, dMethB, dSet, dApp, dExt, dRet, dRetM, dNx, dDrop, dNeg, dAnd, dOr, dNot, dIf, dCh, dCh3, dU, dTup, dLst, dFld, dIsi, dIl, dIe, dIr1, dIr2, dIv1, dgN, dgT, putAll, dFor, dPar2, dPar3, dSetT, dLc, dYes, dSl, dNo, dSome, dRev, dNev, dSset, dCount, dIndex, dLrg1, dLrg2, dTwo, un_non, un_int, un_bl, un_str, un_lst, un_tup, un_obj, un_dct, un_scr, un_olst, un_oll, un_oobj, un_mv, un_m, un_p, pl_non, pl_int, pl_bl, pl_str, pl_lst, pl_tup, pl_obj, pl_dct, pl_scr, pl_m, pl_p, fzm_non, fzm_int, fzm_bl, fzm_lst, fzm_tup, fzm_obj, fzm_scr, fzm_olst, fzm_oll, fzm_oobj, fzm_m, frz_non, frz_int, frz_bl, frz_str, frz_lst, frz_tup, frz_obj, frz_dct, frz_scr, frz_olst, frz_oll, frz_m, fz_no, fz_tr, see_no, see_tr, asB_bl, asI_int, asgD_non, asgD_int, asgD_bl, asgD_lst, asgD_tup, asgD_obj, asgD_mv, asgD_m, it_lst, it_olst, it_scr, li_lst, li_olst, pit_lst, pit_scr, sz_lst, sz_olst, sz_oll, sz_scr, sz_tup, ad_int, ad_ll, ad_oo, ad_lo, ad_ol, mu_int, mu_l, mu_o, gI_int, gI0_int, gI2_int, ii_eqv, co_int, co_bl, co_non, co_row, co_rowO, co_nil, co_nilO, co_ps, co_p, co_p2, co_rows, ev_ll, ev_ol, ev_lo, ev_oo, ev_ln, ev_lno, ev_on, ev_ono, in_ps, in_row, gEq, gNe, gIn, gNotIn, g1, g2, gLen, gList, δof, List.getElem?_cons_zero, List.getElem?_cons_succ, List.getElem?_nil, List.set_cons_zero, List.set_cons_succ, List.map_cons, List.map_nil, List.length_cons, List.length_nil, List.replicate_succ, List.replicate_zero, List.cons_append, List.nil_append, Option.bind_some, Option.bind_none, List.all_cons, List.all_nil, List.append_nil, Nat.reduceAdd, Nat.reduceSub, true_and, and_true, Bool.and_true, Bool.true_and]
    rw [hN]
    by_cases c : q.1 < q.2
    · rw [List.filter_cons_of_pos (by simpa using c)] at h
      simp only [decide_eq_true c, dSeq, dIfS, dT, dTn, dTa, dTo, dOp, dVar, dC, dFz_eq, dCB, dCons, dNil, dCall, dCallB, dMeth, dMethB, dSet, dApp, dExt, dRet, dRetM, dNx, dDrop, dNeg, dAnd, dOr, dNot, dIf, dCh, dCh3, dU, dTup, dLst, dFld, dIsi, dIl, dIe, dIr1, dIr2, dIv1, dgN, dgT, putAll, dFor, dPar2, dPar3, dSetT, dLc, dYes, dSl, dNo, dSome, dRev, dNev, dSset, dCount, dIndex, dLrg1, dLrg2, dTwo, un_non, un_int, un_bl, un_str, un_lst, un_tup, un_obj, un_dct, un_scr, un_olst, un_oll, un_oobj, un_mv, un_m, un_p, pl_non, pl_int, pl_bl, pl_str, pl_lst, pl_tup, pl_obj, pl_dct, pl_scr, pl_m, pl_p, fzm_non, fzm_int, fzm_bl, fzm_lst, fzm_tup, fzm_obj, fzm_scr, fzm_olst, fzm_oll, fzm_oobj, fzm_m, frz_non, frz_int, frz_bl, frz_str, frz_lst, frz_tup, frz_obj, frz_dct, frz_scr, frz_olst, frz_oll, frz_m, fz_no, fz_tr, see_no, see_tr, asB_bl, asI_int, asgD_non, asgD_int, asgD_bl, asgD_lst, asgD_tup, asgD_obj, asgD_mv, asgD_m, it_lst, it_olst, it_scr, li_lst, li_olst, pit_lst, pit_scr, sz_lst, sz_olst, sz_oll, sz_scr, sz_tup, ad_int, ad_ll, ad_oo, ad_lo, ad_ol, mu_int, mu_l, mu_o, gI_int, gI0_int, gI2_int, ii_eqv, co_int, co_bl, co_non, co_row, co_rowO, co_nil, co_nilO, co_ps, co_p, co_p2, co_rows, ev_ll, ev_ol, ev_lo, ev_oo, ev_ln, ev_lno, ev_on, ev_ono, in_ps, in_row, gEq, gNe, gIn, gNotIn, g1, g2, gLen, gList, δof, List.getElem?_cons_zero, List.getElem?_cons_succ, List.getElem?_nil, List.set_cons_zero, List.set_cons_succ, List.map_cons, List.map_nil, List.length_cons, List.length_nil, List.replicate_succ, List.replicate_zero, List.cons_append, List.nil_append, Option.bind_some, Option.bind_none, List.all_cons, List.all_nil, List.append_nil, Nat.reduceAdd, Nat.reduceSub, true_and, and_true, Bool.and_true, Bool.true_and]
      have z := minds_c2 (K := K) (P := P) (e0 := e0) (e1 := e1) (e2 := e2) (e3 := e3) (e4 := e4) (e5 := e5) (e6 := e6) qs (acc ++ [q]) e7 (by rw [List.length_append, List.length_cons, List.length_nil]; omega) (by rw [List.append_assoc]; exact h)
      rw [List.map_append] at z
      exact ⟨by rw [List.length_map]; omega, z⟩
    · rw [List.filter_cons_of_neg (by simpa using c)] at h
      simp only [decide_eq_false c]
      exact minds_c2 (K := K) (P := P) qs acc e7 (by omega) h
/-! the pairs of two loops -/
def Lx (one : Int) (q : Int × Int) : Prop := q.1 < one
theorem minds_f3 {K : PySem.W.Frag} {n one : Int} {d0 : D} {E : EndsD} {bound : Nat} (h0 : 0 ≤ one) (h : ∀ (code : Int) (ps : List (Int × Int)) e6, ps.Nodup → ps.length ≤ bound → (∀ q ∈ ps, 0 ≤ q.1 ∧ q.1 < q.2 ∧ q.2 < n ∧ q.1 < one + 1) → E.nx [.tr d0, .tr (.int n), .tr (.int code), .tr (.olst (ps.map pD)), .no, .tr (.int one), e6, .no]) (hb : bound ≤ 1000) :
    ∀ (js : List Int) (code : Int) (ps : List (Int × Int)) (e6 : DV), js.Pairwise (· < ·) → (∀ j ∈ js, one < j ∧ j < n) → ps.Nodup → ps.length + js.length ≤ bound → (∀ q ∈ ps, 0 ≤ q.1 ∧ q.1 < q.2 ∧ q.2 < n ∧ (q.1 < one ∨ (q.1 = one ∧ ∀ j ∈ js, q.2 < j))) →
      forGo (dgN 6) (T_law_minds_f3 K) E (js.map .int) [.tr d0, .tr (.int n), .tr (.int code), .tr (.olst (ps.map pD)), .no, .tr (.int one), e6, .no]
  | [], code, ps, e6, _, _, hnd, hl, hp => h code ps e6 hnd (by simpa using hl) fun q hq => by
      obtain ⟨a, b, c, d⟩ := hp q hq
      refine ⟨a, b, c, ?_⟩
      rcases d with d | ⟨d, _⟩ <;> omega
  | j :: js, code, ps, e6, up, hj, hnd, hl, hp => by
    rw [List.length_cons] at hl
    obtain ⟨u1, u2⟩ := List.pairwise_cons.mp up
    obtain ⟨j1, j2⟩ := hj j List.mem_cons_self
    refine forGo_op fun N hN => ?_
    simp only [T_law_minds_f3, dSeq, dIfS, dT, dTn, dTa, dTo, dOp, dVar, dC, dFz_eq, dCB, dCons, dNil, dCall, dCallB, dMeth, dMethB, dSet, dApp, dExt, dRet, dRetM, dNx, dDrop, dNeg, dAnd, dOr, dNot, dIf, dCh, dCh3, dU, dTup, dLst, dFld, dIsi, dIl, dIe, dIr1, dIr2, dIv1, dgN, dgT, putAll, dFor, dPar2, dPar3, dSetT, dLc, dYes, dSl, dNo, dSome, dRev, dNev, dSset, dCount, dIndex, dLrg1, dLrg2, dTwo, un_non, un_int, un_bl, un_str, un_lst, un_tup, un_obj, un_dct, un_scr, un_olst, un_oll, un_oobj, un_mv, un_m, un_p, pl_non, pl_int, pl_bl, pl_str, pl_lst, pl_tup, pl_obj, pl_dct, pl_scr, pl_m, pl_p, fzm_non, fzm_int, fzm_bl, fzm_lst, fzm_tup, fzm_obj, fzm_scr, fzm_olst, fzm_oll, fzm_oobj, fzm_m, frz_non, frz_int, frz_bl, frz_str, frz_lst, frz_tup, frz_obj, frz_dct, frz_scr, frz_olst, frz_oll, frz_m, fz_no, fz_tr, see_no, see_tr, asB_bl, asI_int, asgD_non, asgD_int, asgD_bl, asgD_lst, asgD_tup, asgD_obj, asgD_mv, asgD_m, it_lst, it_olst, it_scr, li_lst, li_olst, pit_lst, pit_scr, sz_lst, sz_olst, sz_oll, sz_scr, sz_tup, ad_int, ad_ll, ad_oo, ad_lo, ad_ol, mu_int, mu_l, mu_o, gI_int, gI0_int, gI2_int, ii_eqv, co_int, co_bl, co_non, co_row, co_rowO, co_nil, co_nilO, co_ps, co_p, co_p2, co_rows, ev_ll, ev_ol, ev_lo, ev_oo, ev_ln, ev_lno, ev_on, ev_ono, in_ps, in_row, gEq, gNe, gIn, gNotIn, g1, g2, gLen, gList, δof, List.getElem?_cons_zero, List.getElem?_cons_succ, List.getElem?_nil, List.set_cons_zero, List.set_cons_succ, List.map_cons, List.map_nil, List.length_cons, List.length_nil, List.replicate_succ, List.replicate_zero, List.cons_append, List.nil_append, Option.bind_some, Option.bind_none, List.all_cons, List.all_nil, List.append_nil, Nat.reduceAdd, Nat.reduceSub, true_and, and_true, Bool.and_true, Bool.true_and]
    refine ⟨by decide, ?_⟩
    have rest : ∀ (ps : List (Int × Int)), ps.Nodup → ps.length + js.length ≤ bound → (∀ q ∈ ps, 0 ≤ q.1 ∧ q.1 < q.2 ∧ q.2 < n ∧ (q.1 < one ∨ (q.1 = one ∧ ∀ j ∈ js, q.2 < j))) → CDivN code 3 ∧ CMul 7 j ∧ N [.tr d0, .tr (.int n), .tr (.int (code.fdiv 3 + 7 * j)), .tr (.olst (ps.map pD)), .no, .tr (.int one), .tr (.int j), .no] := fun ps a b c => by
      rw [hN]
      exact ⟨⟨by decide, by decide⟩, .inl ⟨by decide, by decide⟩, minds_f3 h0 h hb js _ ps _ u2 (fun i hi => hj i (List.mem_cons_of_mem _ hi)) a b c⟩
    by_cases c : code.fmod 5 < 2
    · simp only [decide_eq_true c, dSeq, dIfS, dT, dTn, dTa, dTo, dOp, dVar, dC, dFz_eq, dCB, dCons, dNil, dCall, dCallB, dMeth, dMethB, dSet, dApp, dExt, dRet, dRetM, dNx, dDrop, dNeg, dAnd, dOr, dNot, dIf, dCh, dCh3, dU, dTup, dLst, dFld, dIsi, dIl, dIe, dIr1, dIr2, dIv1, dgN, dgT, putAll, dFor, dPar2, dPar3, dSetT, dLc, dYes, dSl, dNo, dSome, dRev, dNev, dSset, dCount, dIndex, dLrg1, dLrg2, dTwo, un_non, un_int, un_bl, un_str, un_lst, un_tup, un_obj, un_dct, un_scr, un_olst, un_oll, un_oobj, un_mv, un_m, un_p, pl_non, pl_int, pl_bl, pl_str, pl_lst, pl_tup, pl_obj, pl_dct, pl_scr, pl_m, pl_p, fzm_non, fzm_int, fzm_bl, fzm_lst, fzm_tup, fzm_obj, fzm_scr, fzm_olst, fzm_oll, fzm_oobj, fzm_m, frz_non, frz_int, frz_bl, frz_str, frz_lst, frz_tup, frz_obj, frz_dct, frz_scr, frz_olst, frz_oll, frz_m, fz_no, fz_tr, see_no, see_tr, asB_bl, asI_int, asgD_non, asgD_int, asgD_bl, asgD_lst, asgD_tup, asgD_obj, asgD_mv, asgD_m, it_lst, it_olst, it_scr, li_lst, li_olst, pit_lst, pit_scr, sz_lst, sz_olst, sz_oll, sz_scr, sz_tup, ad_int, ad_ll, ad_oo, ad_lo, ad_ol, mu_int, mu_l, mu_o, gI_int, gI0_int, gI2_int, ii_eqv, co_int, co_bl, co_non, co_row, co_rowO, co_nil, co_nilO, co_ps, co_p, co_p2, co_rows, ev_ll, ev_ol, ev_lo, ev_oo, ev_ln, ev_lno, ev_on, ev_ono, in_ps, in_row, gEq, gNe, gIn, gNotIn, g1, g2, gLen, gList, δof, List.getElem?_cons_zero, List.getElem?_cons_succ, List.getElem?_nil, List.set_cons_zero, List.set_cons_succ, List.map_cons, List.map_nil, List.length_cons, List.length_nil, List.replicate_succ, List.replicate_zero, List.cons_append, List.nil_append, Option.bind_some, Option.bind_none, List.all_cons, List.all_nil, List.append_nil, Nat.reduceAdd, Nat.reduceSub, true_and, and_true, Bool.and_true, Bool.true_and]
      refine ⟨by rw [List.length_map]; omega, by decide, ?_⟩
      have z := rest (ps ++ [(one, j)]) ?_ ?_ ?_
      · rw [List.map_append] at z
        exact z
      · rw [List.nodup_append]
        refine ⟨hnd, by simp, fun q hq r hr => ?_⟩
        rw [List.mem_singleton.mp hr]
        intro e
        rw [e] at hq
        rcases (hp _ hq).2.2.2 with d | ⟨_, d⟩
        · exact absurd d (by dsimp only; omega)
        · have := d j List.mem_cons_self
          dsimp only at this
          omega
      · rw [List.length_append, List.length_cons, List.length_nil]
        omega
      · intro q hq
        rcases List.mem_append.mp hq with hq | hq
        · obtain ⟨a, b, c, d⟩ := hp q hq
          refine ⟨a, b, c, ?_⟩
          rcases d with d | ⟨d1, d2⟩
          · exact .inl d
          · exact .inr ⟨d1, fun i hi => d2 i (List.mem_cons_of_mem _ hi)⟩
        · rw [List.mem_singleton.mp hq]
          exact ⟨h0, j1, j2, .inr ⟨rfl, u1⟩⟩
    · simp only [decide_eq_false c, dSeq, dIfS, dT, dTn, dTa, dTo, dOp, dVar, dC, dFz_eq, dCB, dCons, dNil, dCall, dCallB, dMeth, dMethB, dSet, dApp, dExt, dRet, dRetM, dNx, dDrop, dNeg, dAnd, dOr, dNot, dIf, dCh, dCh3, dU, dTup, dLst, dFld, dIsi, dIl, dIe, dIr1, dIr2, dIv1, dgN, dgT, putAll, dFor, dPar2, dPar3, dSetT, dLc, dYes, dSl, dNo, dSome, dRev, dNev, dSset, dCount, dIndex, dLrg1, dLrg2, dTwo, un_non, un_int, un_bl, un_str, un_lst, un_tup, un_obj, un_dct, un_scr, un_olst, un_oll, un_oobj, un_mv, un_m, un_p, pl_non, pl_int, pl_bl, pl_str, pl_lst, pl_tup, pl_obj, pl_dct, pl_scr, pl_m, pl_p, fzm_non, fzm_int, fzm_bl, fzm_lst, fzm_tup, fzm_obj, fzm_scr, fzm_olst, fzm_oll, fzm_oobj, fzm_m, frz_non, frz_int, frz_bl, frz_str, frz_lst, frz_tup, frz_obj, frz_dct, frz_scr, frz_olst, frz_oll, frz_m, fz_no, fz_tr, see_no, see_tr, asB_bl, asI_int, asgD_non, asgD_int, asgD_bl, asgD_lst, asgD_tup, asgD_obj, asgD_mv, asgD_m, it_lst, it_olst, it_scr, li_lst, li_olst, pit_lst, pit_scr, sz_lst, sz_olst, sz_oll, sz_scr, sz_tup, ad_int, ad_ll, ad_oo, ad_lo, ad_ol, mu_int, mu_l, mu_o, gI_int, gI0_int, gI2_int, ii_eqv, co_int, co_bl, co_non, co_row, co_rowO, co_nil, co_nilO, co_ps, co_p, co_p2, co_rows, ev_ll, ev_ol, ev_lo, ev_oo, ev_ln, ev_lno, ev_on, ev_ono, in_ps, in_row, gEq, gNe, gIn, gNotIn, g1, g2, gLen, gList, δof, List.getElem?_cons_zero, List.getElem?_cons_succ, List.getElem?_nil, List.set_cons_zero, List.set_cons_succ, List.map_cons, List.map_nil, List.length_cons, List.length_nil, List.replicate_succ, List.replicate_zero, List.cons_append, List.nil_append, Option.bind_some, Option.bind_none, List.all_cons, List.all_nil, List.append_nil, Nat.reduceAdd, Nat.reduceSub, true_and, and_true, Bool.and_true, Bool.true_and]
      refine rest ps hnd (by omega) fun q hq => ?_
      obtain ⟨a, b, c, d⟩ := hp q hq
      refine ⟨a, b, c, ?_⟩
      rcases d with d | ⟨d1, d2⟩
      · exact .inl d
      · exact .inr ⟨d1, fun i hi => d2 i (List.mem_cons_of_mem _ hi)⟩
theorem rng_map (lo : Int) (n : Nat) : rng lo n = ((List.range n).map fun (i : Nat) => lo + (i : Int)).map D.int := by
  unfold rng
  rw [List.map_map]
  rfl
theorem rng_up (lo : Int) (n : Nat) : ((List.range n).map fun (i : Nat) => lo + (i : Int)).Pairwise (· < ·) := by
  rw [List.pairwise_map]
  exact List.pairwise_lt_range.imp fun h => by omega
theorem rng_mem {lo : Int} {n : Nat} {j : Int} (h : j ∈ (List.range n).map fun (i : Nat) => lo + (i : Int)) : lo ≤ j ∧ j < lo + n := by
  obtain ⟨i, hi, rfl⟩ := List.mem_map.mp h
  have := List.mem_range.mp hi
  omega
theorem minds_f4 {K : PySem.W.Frag} {n : Int} {d0 : D} {E : EndsD} (hn : n ≤ 6) (h : ∀ (code : Int) (ps : List (Int × Int)) e5 e6, ps.Nodup → ps.length ≤ 36 → (∀ q ∈ ps, 0 ≤ q.1 ∧ q.1 < q.2 ∧ q.2 < n) → E.nx [.tr d0, .tr (.int n), .tr (.int code), .tr (.olst (ps.map pD)), .no, e5, e6, .no]) :
    ∀ (is : List Int) (one : Int) (code : Int) (ps : List (Int × Int)) (e5 e6 : DV), is.Pairwise (· < ·) → (∀ i ∈ is, one ≤ i ∧ 0 ≤ i ∧ i < n) → ps.Nodup → ps.length + 6 * is.length ≤ 36 → (∀ q ∈ ps, 0 ≤ q.1 ∧ q.1 < q.2 ∧ q.2 < n ∧ q.1 < one) →
      forGo (dgN 5) (T_law_minds_f4 K) E (is.map .int) [.tr d0, .tr (.int n), .tr (.int code), .tr (.olst (ps.map pD)), .no, e5, e6, .no]
  | [], one, code, ps, e5, e6, _, _, hnd, hl, hp => h code ps e5 e6 hnd (by simpa using hl) fun q hq => ⟨(hp q hq).1, (hp q hq).2.1, (hp q hq).2.2.1⟩
  | i :: is, one, code, ps, e5, e6, up, hi, hnd, hl, hp => by
    rw [List.length_cons] at hl
    obtain ⟨u1, u2⟩ := List.pairwise_cons.mp up
    obtain ⟨i1, i2, i3⟩ := hi i List.mem_cons_self
    refine forGo_op fun N hN => ?_
    simp only [T_law_minds_f4, dSeq, dIfS, dT, dTn, dTa, dTo, dOp, dVar, dC, dFz_eq, dCB, dCons, dNil, dCall, dCallB, dMeth, dMethB, dSet, dApp, dExt, dRet, dRetM, dNx, dDrop, dNeg, dAnd, dOr, dNot, dIf, dCh, dCh3, dU, dTup, dLst, dFld, dIsi, dIl, dIe, dIr1, dIr2, dIv1, dgN, dgT, putAll, dFor, dPar2, dPar3, dSetT, dLc, dYes, dSl, dNo, dSome, dRev, dNev, dSset, dCount, dIndex, dLrg1, dLrg2, dTwo, un_non, un_int, un_bl, un_str, un_lst, un_tup, un_obj, un_dct, un_scr, un_olst, un_oll, un_oobj, un_mv, un_m, un_p, pl_non, pl_int, pl_bl, pl_str, pl_lst, pl_tup, pl_obj, pl_dct, pl_scr, pl_m, pl_p, fzm_non, fzm_int, fzm_bl, fzm_lst, fzm_tup, fzm_obj, fzm_scr, fzm_olst, fzm_oll, fzm_oobj, fzm_m, frz_non, frz_int, frz_bl, frz_str, frz_lst, frz_tup, frz_obj, frz_dct, frz_scr, frz_olst, frz_oll, frz_m, fz_no, fz_tr, see_no, see_tr, asB_bl, asI_int, asgD_non, asgD_int, asgD_bl, asgD_lst, asgD_tup, asgD_obj, asgD_mv, asgD_m, it_lst, it_olst, it_scr, li_lst, li_olst, pit_lst, pit_scr, sz_lst, sz_olst, sz_oll, sz_scr, sz_tup, ad_int, ad_ll, ad_oo, ad_lo, ad_ol, mu_int, mu_l, mu_o, gI_int, gI0_int, gI2_int, ii_eqv, co_int, co_bl, co_non, co_row, co_rowO, co_nil, co_nilO, co_ps, co_p, co_p2, co_rows, ev_ll, ev_ol, ev_lo, ev_oo, ev_ln, ev_lno, ev_on, ev_ono, in_ps, in_row, gEq, gNe, gIn, gNotIn, g1, g2, gLen, gList, δof, List.getElem?_cons_zero, List.getElem?_cons_succ, List.getElem?_nil, List.set_cons_zero, List.set_cons_succ, List.map_cons, List.map_nil, List.length_cons, List.length_nil, List.replicate_succ, List.replicate_zero, List.cons_append, List.nil_append, Option.bind_some, Option.bind_none, List.all_cons, List.all_nil, List.append_nil, Nat.reduceAdd, Nat.reduceSub, true_and, and_true, Bool.and_true, Bool.true_and]
    refine ⟨by omega, by omega, ?_⟩
    rw [rng_map]
    refine minds_f3 (K := K) (n := n) (one := i) (bound := ps.length + 6) i2 (fun code ps2 e6 a b c => ?_) (by omega) _ code ps e6 (rng_up _ _) (fun j hj => ?_) hnd ?_ fun q hq => ?_
    · rw [hN]
      exact minds_f4 hn h is (i + 1) code ps2 _ e6 u2 (fun j hj => ⟨by have := u1 j hj; omega, (hi j (List.mem_cons_of_mem _ hj)).2⟩) a (by omega) c
    · have := rng_mem hj
      omega
    · rw [List.length_map, List.length_range]
      omega
    · obtain ⟨a, b, c, d⟩ := hp q hq
      exact ⟨a, b, c, .inl (by omega)⟩
theorem pick_mem {α : Type} {xs : List α} {is : List Nat} {x : α} (h : x ∈ pick xs is) : x ∈ xs := by
  obtain ⟨i, _, e⟩ := List.mem_filterMap.mp h
  exact List.mem_of_getElem? e
theorem pick_len {α : Type} (xs : List α) (is : List Nat) : (pick xs is).length ≤ is.length := List.length_filterMap_le _ _
theorem pick_map {α β : Type} (f : α → β) (xs : List α) (is : List Nat) : pick (xs.map f) is = (pick xs is).map f := by
  unfold pick
  rw [List.map_filterMap]
  congr 1
  funext i
  rw [List.getElem?_map]
theorem nodup_filter {α : Type} {p : α → Bool} {xs : List α} (h : xs.Nodup) : (xs.filter p).Nodup := List.Pairwise.filter p h
/-- pigeons -/
theorem same_le {α : Type} [DecidableEq α] : ∀ {xs ys : List α}, xs.Nodup → (∀ x ∈ xs, x ∈ ys) → xs.length ≤ ys.length
  | [], _, _, _ => Nat.zero_le _
  | x :: xs, ys, nd, h => by
    obtain ⟨n1, n2⟩ := List.nodup_cons.mp nd
    have hx := h x List.mem_cons_self
    have ih := same_le (ys := ys.erase x) n2 fun y hy => (List.mem_erase_of_ne (fun (e : y = x) => n1 (e ▸ hy))).mpr (h y (List.mem_cons_of_mem _ hy))
    have e := List.length_erase_of_mem hx
    have p := List.length_pos_of_mem hx
    rw [List.length_cons]
    omega
theorem rd_law_minds {K : PySem.W.Frag} : ∀ ds Q, G_law_minds K ds Q → T_law_minds K { nx := fun _ => Q .non, rt := Q } (δof N_law_minds.length ds) := by
  rintro _ Q ⟨ns, rfl, hl, h⟩
  simp only [T_law_minds, dSeq, dIfS, dT, dTn, dTa, dTo, dOp, dVar, dC, dFz_eq, dCB, dCons, dNil, dCall, dCallB, dMeth, dMethB, dSet, dApp, dExt, dRet, dRetM, dNx, dDrop, dNeg, dAnd, dOr, dNot, dIf, dCh, dCh3, dU, dTup, dLst, dFld, dIsi, dIl, dIe, dIr1, dIr2, dIv1, dgN, dgT, putAll, dFor, dPar2, dPar3, dSetT, dLc, dYes, dSl, dNo, dSome, dRev, dNev, dSset, dCount, dIndex, dLrg1, dLrg2, dTwo, un_non, un_int, un_bl, un_str, un_lst, un_tup, un_obj, un_dct, un_scr, un_olst, un_oll, un_oobj, un_mv, un_m, un_p, pl_non, pl_int, pl_bl, pl_str, pl_lst, pl_tup, pl_obj, pl_dct, pl_scr, pl_m, pl_p, fzm_non, fzm_int, fzm_bl, fzm_lst, fzm_tup, fzm_obj, fzm_scr, fzm_olst, fzm_oll, fzm_oobj, fzm_m, frz_non, frz_int, frz_bl, frz_str, frz_lst, frz_tup, frz_obj, frz_dct, frz_scr, frz_olst, frz_oll, frz_m, fz_no, fz_tr, see_no, see_tr, asB_bl, asI_int, asgD_non, asgD_int, asgD_bl, asgD_lst, asgD_tup, asgD_obj, asgD_mv, asgD_m, it_lst, it_olst, it_scr, li_lst, li_olst, pit_lst, pit_scr, sz_lst, sz_olst, sz_oll, sz_scr, sz_tup, ad_int, ad_ll, ad_oo, ad_lo, ad_ol, mu_int, mu_l, mu_o, gI_int, gI0_int, gI2_int, ii_eqv, co_int, co_bl, co_non, co_row, co_rowO, co_nil, co_nilO, co_ps, co_p, co_p2, co_rows, ev_ll, ev_ol, ev_lo, ev_oo, ev_ln, ev_lno, ev_on, ev_ono, in_ps, in_row, gEq, gNe, gIn, gNotIn, g1, g2, gLen, gList, δof, List.getElem?_cons_zero, List.getElem?_cons_succ, List.getElem?_nil, List.set_cons_zero, List.set_cons_succ, List.map_cons, List.map_nil, List.length_cons, List.length_nil, List.replicate_succ, List.replicate_zero, List.cons_append, List.nil_append, Option.bind_some, Option.bind_none, List.all_cons, List.all_nil, List.append_nil, Nat.reduceAdd, Nat.reduceSub, true_and, and_true, Bool.and_true, Bool.true_and, gSum, gInts, ints_scr]
  refine ⟨by decide, ⟨by decide, by decide⟩, by decide, by decide, ?_⟩
  have k0 := fmod_nn ns.sum (b := 6) (by decide)
  have k1 := fmod_lt ns.sum (b := 6) (by decide)
  generalize ns.sum.fmod 6 = k at *
  generalize ns.sum.fdiv 6 + (ns.length : Int) = code
  by_cases c : code.fmod 3 = 2
  · simp only [decide_eq_true c, dSeq, dIfS, dT, dTn, dTa, dTo, dOp, dVar, dC, dFz_eq, dCB, dCons, dNil, dCall, dCallB, dMeth, dMethB, dSet, dApp, dExt, dRet, dRetM, dNx, dDrop, dNeg, dAnd, dOr, dNot, dIf, dCh, dCh3, dU, dTup, dLst, dFld, dIsi, dIl, dIe, dIr1, dIr2, dIv1, dgN, dgT, putAll, dFor, dPar2, dPar3, dSetT, dLc, dYes, dSl, dNo, dSome, dRev, dNev, dSset, dCount, dIndex, dLrg1, dLrg2, dTwo, un_non, un_int, un_bl, un_str, un_lst, un_tup, un_obj, un_dct, un_scr, un_olst, un_oll, un_oobj, un_mv, un_m, un_p, pl_non, pl_int, pl_bl, pl_str, pl_lst, pl_tup, pl_obj, pl_dct, pl_scr, pl_m, pl_p, fzm_non, fzm_int, fzm_bl, fzm_lst, fzm_tup, fzm_obj, fzm_scr, fzm_olst, fzm_oll, fzm_oobj, fzm_m, frz_non, frz_int, frz_bl, frz_str, frz_lst, frz_tup, frz_obj, frz_dct, frz_scr, frz_olst, frz_oll, frz_m, fz_no, fz_tr, see_no, see_tr, asB_bl, asI_int, asgD_non, asgD_int, asgD_bl, asgD_lst, asgD_tup, asgD_obj, asgD_mv, asgD_m, it_lst, it_olst, it_scr, li_lst, li_olst, pit_lst, pit_scr, sz_lst, sz_olst, sz_oll, sz_scr, sz_tup, ad_int, ad_ll, ad_oo, ad_lo, ad_ol, mu_int, mu_l, mu_o, gI_int, gI0_int, gI2_int, ii_eqv, co_int, co_bl, co_non, co_row, co_rowO, co_nil, co_nilO, co_ps, co_p, co_p2, co_rows, ev_ll, ev_ol, ev_lo, ev_oo, ev_ln, ev_lno, ev_on, ev_ono, in_ps, in_row, gEq, gNe, gIn, gNotIn, g1, g2, gLen, gList, δof, List.getElem?_cons_zero, List.getElem?_cons_succ, List.getElem?_nil, List.set_cons_zero, List.set_cons_succ, List.map_cons, List.map_nil, List.length_cons, List.length_nil, List.replicate_succ, List.replicate_zero, List.cons_append, List.nil_append, Option.bind_some, Option.bind_none, List.all_cons, List.all_nil, List.append_nil, Nat.reduceAdd, Nat.reduceSub, true_and, and_true, Bool.and_true, Bool.true_and]
    refine ⟨⟨by decide, by decide⟩, by omega, ?_⟩
    have m0 := fmod_nn (code.fdiv 3) (b := (ns.length : Int) + 1) (by omega)
    have m1 := fmod_lt (code.fdiv 3) (b := (ns.length : Int) + 1) (by omega)
    generalize (code.fdiv 3).fmod ((ns.length : Int) + 1) = kk at *
    intro is his
    rw [List.length_map] at his
    rw [pick_map]
    refine minds_f1 (K := K) (n := 1 + kk) (by omega) (by omega) (fun qs e4 e5 e6 e7 hq1 hq2 => ?_) _ [] _ _ _ _ (by have := pick_len ns is; simp; omega) (fun q hq => by cases hq)
    simp only [dSeq, dIfS, dT, dTn, dTa, dTo, dOp, dVar, dC, dFz_eq, dCB, dCons, dNil, dCall, dCallB, dMeth, dMethB, dSet, dApp, dExt, dRet, dRetM, dNx, dDrop, dNeg, dAnd, dOr, dNot, dIf, dCh, dCh3, dU, dTup, dLst, dFld, dIsi, dIl, dIe, dIr1, dIr2, dIv1, dgN, dgT, putAll, dFor, dPar2, dPar3, dSetT, dLc, dYes, dSl, dNo, dSome, dRev, dNev, dSset, dCount, dIndex, dLrg1, dLrg2, dTwo, un_non, un_int, un_bl, un_str, un_lst, un_tup, un_obj, un_dct, un_scr, un_olst, un_oll, un_oobj, un_mv, un_m, un_p, pl_non, pl_int, pl_bl, pl_str, pl_lst, pl_tup, pl_obj, pl_dct, pl_scr, pl_m, pl_p, fzm_non, fzm_int, fzm_bl, fzm_lst, fzm_tup, fzm_obj, fzm_scr, fzm_olst, fzm_oll, fzm_oobj, fzm_m, frz_non, frz_int, frz_bl, frz_str, frz_lst, frz_tup, frz_obj, frz_dct, frz_scr, frz_olst, frz_oll, frz_m, fz_no, fz_tr, see_no, see_tr, asB_bl, asI_int, asgD_non, asgD_int, asgD_bl, asgD_lst, asgD_tup, asgD_obj, asgD_mv, asgD_m, it_lst, it_olst, it_scr, li_lst, li_olst, pit_lst, pit_scr, sz_lst, sz_olst, sz_oll, sz_scr, sz_tup, ad_int, ad_ll, ad_oo, ad_lo, ad_ol, mu_int, mu_l, mu_o, gI_int, gI0_int, gI2_int, ii_eqv, co_int, co_bl, co_non, co_row, co_rowO, co_nil, co_nilO, co_ps, co_p, co_p2, co_rows, ev_ll, ev_ol, ev_lo, ev_oo, ev_ln, ev_lno, ev_on, ev_ono, in_ps, in_row, gEq, gNe, gIn, gNotIn, g1, g2, gLen, gList, δof, List.getElem?_cons_zero, List.getElem?_cons_succ, List.getElem?_nil, List.set_cons_zero, List.set_cons_succ, List.map_cons, List.map_nil, List.length_cons, List.length_nil, List.replicate_succ, List.replicate_zero, List.cons_append, List.nil_append, Option.bind_some, Option.bind_none, List.all_cons, List.all_nil, List.append_nil, Nat.reduceAdd, Nat.reduceSub, true_and, and_true, Bool.and_true, Bool.true_and, dSsetP]
    refine minds_c2 (K := K) qs [] _ (by simp; omega) ?_
    refine ⟨qs.filter fun q => decide (q.1 < q.2), rfl, Nat.lt_of_le_of_lt (List.length_filter_le _ _) hq1, fun q hq => ?_, fun rs nd mem => ?_⟩
    · have z := hq2 q (List.mem_filter.mp hq).1
      omega
    · refine ⟨by decide, h _ rs (by omega) (by omega) ⟨nd, ?_, fun q hq => ?_⟩⟩
      · have z := same_le nd (fun q hq => (mem q).mp hq)
        have := List.length_filter_le (fun q : Int × Int => decide (q.1 < q.2)) qs
        omega
      · have z := List.mem_filter.mp ((mem q).mp hq)
        have z2 := hq2 q z.1
        have z3 := of_decide_eq_true z.2
        omega
  · simp only [decide_eq_false c, dSeq, dIfS, dT, dTn, dTa, dTo, dOp, dVar, dC, dFz_eq, dCB, dCons, dNil, dCall, dCallB, dMeth, dMethB, dSet, dApp, dExt, dRet, dRetM, dNx, dDrop, dNeg, dAnd, dOr, dNot, dIf, dCh, dCh3, dU, dTup, dLst, dFld, dIsi, dIl, dIe, dIr1, dIr2, dIv1, dgN, dgT, putAll, dFor, dPar2, dPar3, dSetT, dLc, dYes, dSl, dNo, dSome, dRev, dNev, dSset, dCount, dIndex, dLrg1, dLrg2, dTwo, un_non, un_int, un_bl, un_str, un_lst, un_tup, un_obj, un_dct, un_scr, un_olst, un_oll, un_oobj, un_mv, un_m, un_p, pl_non, pl_int, pl_bl, pl_str, pl_lst, pl_tup, pl_obj, pl_dct, pl_scr, pl_m, pl_p, fzm_non, fzm_int, fzm_bl, fzm_lst, fzm_tup, fzm_obj, fzm_scr, fzm_olst, fzm_oll, fzm_oobj, fzm_m, frz_non, frz_int, frz_bl, frz_str, frz_lst, frz_tup, frz_obj, frz_dct, frz_scr, frz_olst, frz_oll, frz_m, fz_no, fz_tr, see_no, see_tr, asB_bl, asI_int, asgD_non, asgD_int, asgD_bl, asgD_lst, asgD_tup, asgD_obj, asgD_mv, asgD_m, it_lst, it_olst, it_scr, li_lst, li_olst, pit_lst, pit_scr, sz_lst, sz_olst, sz_oll, sz_scr, sz_tup, ad_int, ad_ll, ad_oo, ad_lo, ad_ol, mu_int, mu_l, mu_o, gI_int, gI0_int, gI2_int, ii_eqv, co_int, co_bl, co_non, co_row, co_rowO, co_nil, co_nilO, co_ps, co_p, co_p2, co_rows, ev_ll, ev_ol, ev_lo, ev_oo, ev_ln, ev_lno, ev_on, ev_ono, in_ps, in_row, gEq, gNe, gIn, gNotIn, g1, g2, gLen, gList, δof, List.getElem?_cons_zero, List.getElem?_cons_succ, List.getElem?_nil, List.set_cons_zero, List.set_cons_succ, List.map_cons, List.map_nil, List.length_cons, List.length_nil, List.replicate_succ, List.replicate_zero, List.cons_append, List.nil_append, Option.bind_some, Option.bind_none, List.all_cons, List.all_nil, List.append_nil, Nat.reduceAdd, Nat.reduceSub, true_and, and_true, Bool.and_true, Bool.true_and]
    refine ⟨by omega, by omega, ?_⟩
    rw [rng_map]
    refine minds_f4 (K := K) (n := 1 + k) (by omega) (fun code ps e5 e6 a b c => ?_) _ 0 code [] _ _ (rng_up _ _) (fun i hi => by have := rng_mem hi; omega) (by simp) (by rw [List.length_map, List.length_range]; simp; omega) (fun q hq => by cases hq)
    simp only [dSeq, dIfS, dT, dTn, dTa, dTo, dOp, dVar, dC, dFz_eq, dCB, dCons, dNil, dCall, dCallB, dMeth, dMethB, dSet, dApp, dExt, dRet, dRetM, dNx, dDrop, dNeg, dAnd, dOr, dNot, dIf, dCh, dCh3, dU, dTup, dLst, dFld, dIsi, dIl, dIe, dIr1, dIr2, dIv1, dgN, dgT, putAll, dFor, dPar2, dPar3, dSetT, dLc, dYes, dSl, dNo, dSome, dRev, dNev, dSset, dCount, dIndex, dLrg1, dLrg2, dTwo, un_non, un_int, un_bl, un_str, un_lst, un_tup, un_obj, un_dct, un_scr, un_olst, un_oll, un_oobj, un_mv, un_m, un_p, pl_non, pl_int, pl_bl, pl_str, pl_lst, pl_tup, pl_obj, pl_dct, pl_scr, pl_m, pl_p, fzm_non, fzm_int, fzm_bl, fzm_lst, fzm_tup, fzm_obj, fzm_scr, fzm_olst, fzm_oll, fzm_oobj, fzm_m, frz_non, frz_int, frz_bl, frz_str, frz_lst, frz_tup, frz_obj, frz_dct, frz_scr, frz_olst, frz_oll, frz_m, fz_no, fz_tr, see_no, see_tr, asB_bl, asI_int, asgD_non, asgD_int, asgD_bl, asgD_lst, asgD_tup, asgD_obj, asgD_mv, asgD_m, it_lst, it_olst, it_scr, li_lst, li_olst, pit_lst, pit_scr, sz_lst, sz_olst, sz_oll, sz_scr, sz_tup, ad_int, ad_ll, ad_oo, ad_lo, ad_ol, mu_int, mu_l, mu_o, gI_int, gI0_int, gI2_int, ii_eqv, co_int, co_bl, co_non, co_row, co_rowO, co_nil, co_nilO, co_ps, co_p, co_p2, co_rows, ev_ll, ev_ol, ev_lo, ev_oo, ev_ln, ev_lno, ev_on, ev_ono, in_ps, in_row, gEq, gNe, gIn, gNotIn, g1, g2, gLen, gList, δof, List.getElem?_cons_zero, List.getElem?_cons_succ, List.getElem?_nil, List.set_cons_zero, List.set_cons_succ, List.map_cons, List.map_nil, List.length_cons, List.length_nil, List.replicate_succ, List.replicate_zero, List.cons_append, List.nil_append, Option.bind_some, Option.bind_none, List.all_cons, List.all_nil, List.append_nil, Nat.reduceAdd, Nat.reduceSub, true_and, and_true, Bool.and_true, Bool.true_and]
    exact ⟨by decide, h _ ps (by omega) (by omega) ⟨a, by omega, c⟩⟩
end J
/-! M2: what two rows have of two kinds; exchanges; plain -/
namespace J
/-- what a row has of two kinds -/
def prt (a b : Int) (xs : List Int) : List Int := xs.filter fun k => decide (k = a) || decide (k = b)
theorem prt_nil {a b : Int} : prt a b [] = [] := rfl
theorem prt_app {a b : Int} {xs ys : List Int} : prt a b (xs ++ ys) = prt a b xs ++ prt a b ys := List.filter_append ..
theorem prt_in {a b k : Int} {xs : List Int} (h : k = a ∨ k = b) : prt a b (k :: xs) = k :: prt a b xs := by
  unfold prt
  rw [List.filter_cons_of_pos]
  simpa using h
theorem prt_out {a b k : Int} {xs : List Int} (h : ¬ (k = a ∨ k = b)) : prt a b (k :: xs) = prt a b xs := by
  unfold prt
  rw [List.filter_cons_of_neg]
  simpa using h
theorem prt_comm {a b : Int} {xs : List Int} : prt a b xs = prt b a xs := by
  unfold prt
  congr 1
  funext k
  rw [Bool.or_comm]
theorem prt_none {a b : Int} {xs : List Int} (h : ∀ x ∈ xs, x ≠ a ∧ x ≠ b) : prt a b xs = [] := by
  unfold prt
  rw [List.filter_eq_nil_iff]
  intro x hx
  simp [h x hx]
theorem mem_prt {a b k : Int} {xs : List Int} : k ∈ prt a b xs ↔ k ∈ xs ∧ (k = a ∨ k = b) := by
  unfold prt
  rw [List.mem_filter]
  simp
theorem prt_left {a b : Int} {xs : List Int} (h : a ∉ xs) : prt a b xs = prt b b xs := by
  unfold prt
  refine List.filter_congr fun x hx => ?_
  have ne : x ≠ a := fun e => h (e ▸ hx)
  simp [ne]
section
variable {m : Int → Int → Bool}
/-- the same doing has the same of each two that mind each other -/
theorem Tr.prt (hm : Mi m) {xs ys : List Int} (h : Tr m xs ys) {a b : Int} (hab : m a b = true) : prt a b xs = prt a b ys := by
  induction h with
  | rfl => rfl
  | @swp zs A B c d e _ ih =>
    rw [← ih, prt_app, prt_app]
    congr 1
    by_cases hc : c = a ∨ c = b
    · by_cases hd : d = a ∨ d = b
      · exfalso
        have : m c d = true := by
          rcases hc with rfl | rfl <;> rcases hd with rfl | rfl
          · exact hm.r _
          · exact hab
          · rw [hm.s]; exact hab
          · exact hm.r _
        rw [e] at this
        cases this
      · rw [prt_in hc, prt_out hd, prt_out hd, prt_in hc]
    · rw [prt_out hc]
      by_cases hd : d = a ∨ d = b
      · rw [prt_in hd, prt_in hd, prt_out hc]
      · rw [prt_out hd, prt_out hd, prt_out hc]
theorem split_first {y : Int} : ∀ {xs : List Int}, y ∈ xs → ∃ A B, xs = A ++ y :: B ∧ y ∉ A
  | x :: xs, h => by
    by_cases e : x = y
    · exact ⟨[], xs, by rw [e]; rfl, List.not_mem_nil⟩
    · rcases List.mem_cons.mp h with h | h
      · exact absurd h.symm e
      · obtain ⟨A, B, h1, h2⟩ := split_first h
        refine ⟨x :: A, B, by rw [h1]; rfl, fun z => ?_⟩
        rcases List.mem_cons.mp z with z | z
        · exact e z.symm
        · exact h2 z
/-- .. and the other way -/
theorem tr_of_prt (hm : Mi m) : ∀ {ys xs : List Int}, (∀ a b, m a b = true → prt a b xs = prt a b ys) → Tr m xs ys
  | [], xs, h => by
    cases xs with
    | nil => exact .rfl _
    | cons x xs =>
      have z := h x x (hm.r x)
      rw [prt_in (.inl rfl)] at z
      cases z
  | y :: ys, xs, h => by
    have hy : y ∈ xs := by
      have z := h y y (hm.r y)
      rw [prt_in (.inl rfl)] at z
      have : y ∈ prt y y xs := by rw [z]; exact List.mem_cons_self
      exact (mem_prt.mp this).1
    obtain ⟨A, B, rfl, ny⟩ := split_first hy
    have free : ∀ a ∈ A, m a y = false := fun a ha => by
      cases e : m a y with
      | false => rfl
      | true =>
        exfalso
        have z := h a y e
        rw [prt_in (.inr rfl), prt_app] at z
        have hp : a ∈ prt a y A := mem_prt.mpr ⟨ha, .inl rfl⟩
        cases q : prt a y A with
        | nil => rw [q] at hp; cases hp
        | cons c r =>
          rw [q, List.cons_append] at z
          injection z with z1 _
          have hc : c ∈ prt a y A := by rw [q]; exact List.mem_cons_self
          rw [z1] at hc
          exact ny (mem_prt.mp hc).1
    refine (Tr.lead free).trans (.cons (tr_of_prt hm fun a b hab => ?_) y)
    have z := h a b hab
    rw [prt_app] at z ⊢
    by_cases hyab : y = a ∨ y = b
    · have nA : prt a b A = [] := prt_none fun x hx => by
        have f := free x hx
        refine ⟨fun e => ?_, fun e => ?_⟩
        · subst e
          rcases hyab with rfl | rfl
          · exact ny hx
          · rw [hab] at f
            cases f
        · subst e
          rcases hyab with rfl | rfl
          · rw [hm.s, hab] at f
            cases f
          · exact ny hx
      rw [nA, prt_in hyab, prt_in hyab] at z
      injection z with _ z
      rw [nA]
      exact z
    · rw [prt_out hyab, prt_out hyab] at z
      exact z
/-! ### couples -/
def cpl (m : Int → Int → Bool) (ks : List Int) : List (Int × Int) := (ks.map fun k => (k, k)) ++ ks.flatMap fun k => (ks.filter fun j => decide (k < j) && m k j).map fun j => (k, j)
theorem mem_cpl {ks : List Int} {a b : Int} : (a, b) ∈ cpl m ks ↔ a ∈ ks ∧ b ∈ ks ∧ (a = b ∨ (a < b ∧ m a b = true)) := by
  unfold cpl
  rw [List.mem_append]
  constructor
  · rintro (h | h)
    · obtain ⟨k, hk, e⟩ := List.mem_map.mp h
      cases e
      exact ⟨hk, hk, .inl rfl⟩
    · obtain ⟨k, hk, h⟩ := List.mem_flatMap.mp h
      obtain ⟨j, hj, e⟩ := List.mem_map.mp h
      cases e
      have z := List.mem_filter.mp hj
      exact ⟨hk, z.1, .inr (by simpa using z.2)⟩
  · rintro ⟨h1, h2, rfl | ⟨h3, h4⟩⟩
    · exact .inl (List.mem_map.mpr ⟨a, h1, rfl⟩)
    · exact .inr (List.mem_flatMap.mpr ⟨a, h1, List.mem_map.mpr ⟨b, List.mem_filter.mpr ⟨h2, by simp [h3, h4]⟩, rfl⟩⟩)
theorem cpl_mi (hm : Mi m) {ks : List Int} {c : Int × Int} (h : c ∈ cpl m ks) : c.1 ≤ c.2 ∧ m c.1 c.2 = true := by
  obtain ⟨_, _, z⟩ := mem_cpl.mp (show (c.1, c.2) ∈ cpl m ks from h)
  rcases z with e | ⟨e, f⟩
  · exact ⟨by omega, by rw [e]; exact hm.r _⟩
  · exact ⟨by omega, f⟩
/-- all couples agree: any two that mind each other do -/
theorem all_cpl (hm : Mi m) {xs ys : List Int} {R : List Int → List Int → Prop} (hnil : R [] []) (h : ∀ c ∈ cpl m (uni (xs ++ ys)), R (prt c.1 c.2 xs) (prt c.1 c.2 ys)) (a b : Int) (hab : m a b = true) : R (prt a b xs) (prt a b ys) := by
  have key : ∀ a b : Int, a ∈ xs ++ ys → b ∈ xs ++ ys → m a b = true → R (prt a b xs) (prt a b ys) := fun a b ha hb hab => by
    rcases Int.lt_trichotomy a b with c | c | c
    · exact h (a, b) (mem_cpl.mpr ⟨mem_uni.mpr ha, mem_uni.mpr hb, .inr ⟨c, hab⟩⟩)
    · exact h (a, b) (mem_cpl.mpr ⟨mem_uni.mpr ha, mem_uni.mpr hb, .inl c⟩)
    · have z := h (b, a) (mem_cpl.mpr ⟨mem_uni.mpr hb, mem_uni.mpr ha, .inr ⟨c, by rw [hm.s]; exact hab⟩⟩)
      rw [prt_comm, prt_comm (xs := ys)] at z
      exact z
  have out : ∀ a : Int, ¬ a ∈ xs ++ ys → a ∉ xs ∧ a ∉ ys := fun a ha => ⟨fun z => ha (List.mem_append_left _ z), fun z => ha (List.mem_append_right _ z)⟩
  by_cases ha : a ∈ xs ++ ys
  · by_cases hb : b ∈ xs ++ ys
    · exact key a b ha hb hab
    · obtain ⟨h1, h2⟩ := out b hb
      rw [prt_comm, prt_comm (xs := ys), prt_left h1, prt_left h2]
      exact key a a ha ha (hm.r a)
  · obtain ⟨h1, h2⟩ := out a ha
    rw [prt_left h1, prt_left h2]
    by_cases hb : b ∈ xs ++ ys
    · exact key b b hb hb (hm.r b)
    · obtain ⟨h3, h4⟩ := out b hb
      rw [prt_none (a := b) (b := b) fun x hx => ⟨fun e => h3 (e ▸ hx), fun e => h3 (e ▸ hx)⟩, prt_none (a := b) (b := b) fun x hx => ⟨fun e => h4 (e ▸ hx), fun e => h4 (e ▸ hx)⟩]
      exact hnil
/-! ### exchanges -/
def xs1 (m : Int → Int → Bool) : Nat → List Int → Option (List Int)
  | 0, a :: b :: r => if m a b then none else some (b :: a :: r)
  | p + 1, a :: r => (xs1 m p r).map (a :: ·)
  | _, _ => none
def xst (m : Int → Int → Bool) (p : Int) (xs : List Int) : Option (List Int) := if p < 0 then none else xs1 m p.toNat xs
def xchs (m : Int → Int → Bool) : List Int → List Int → Option (List Int)
  | [], xs => some xs
  | p :: ps, xs => (xst m p xs).bind (xchs m ps)
theorem xs1_mid {a b : Int} {B : List Int} : ∀ {A : List Int}, xs1 m A.length (A ++ a :: b :: B) = if m a b then none else some (A ++ b :: a :: B)
  | [] => rfl
  | c :: A => by
    show (xs1 m A.length (A ++ a :: b :: B)).map (c :: ·) = _
    rw [xs1_mid]
    split <;> rfl
theorem xs1_off : ∀ {xs : List Int} {p : Nat}, xs.length ≤ p + 1 → xs1 m p xs = none
  | [], 0, _ => rfl
  | [], p + 1, _ => rfl
  | [a], 0, _ => rfl
  | a :: b :: r, 0, h => by simp at h
  | a :: r, p + 1, h => by
    show (xs1 m p r).map (a :: ·) = none
    rw [xs1_off (by simpa using h)]
    rfl
theorem xst_len {p : Int} {xs ys : List Int} (h : xst m p xs = some ys) : ys.length = xs.length := by
  unfold xst at h
  split at h
  · cases h
  · by_cases c : p.toNat + 1 < xs.length
    · obtain ⟨A, a, b, B, rfl, e⟩ := split_at c
      rw [← e, xs1_mid] at h
      split at h
      · cases h
      · cases h
        simp
    · rw [xs1_off (by omega)] at h
      cases h
theorem xst_tr {p : Int} {xs ys : List Int} (h : xst m p xs = some ys) : Tr m xs ys := by
  unfold xst at h
  split at h
  · cases h
  · by_cases c : p.toNat + 1 < xs.length
    · obtain ⟨A, a, b, B, rfl, e⟩ := split_at c
      rw [← e, xs1_mid] at h
      split at h
      · cases h
      · cases h
        rename_i hm
        exact .one (by simpa using hm)
    · rw [xs1_off (by omega)] at h
      cases h
theorem xchs_app {ps qs xs : List Int} : xchs m (ps ++ qs) xs = (xchs m ps xs).bind (xchs m qs) := by
  induction ps generalizing xs with
  | nil => rfl
  | cons p ps ih =>
    show (xst m p xs).bind (xchs m (ps ++ qs)) = ((xst m p xs).bind (xchs m ps)).bind (xchs m qs)
    cases xst m p xs with
    | none => rfl
    | some ys => exact ih
theorem xchs_neg {ps xs : List Int} {p : Int} (h : p < 0) : xchs m (ps ++ [p]) xs = none := by
  rw [xchs_app]
  cases xchs m ps xs with
  | none => rfl
  | some ys =>
    show (xst m p ys).bind (xchs m []) = none
    unfold xst
    rw [if_pos h]
    rfl
theorem rvs_nil (m : Int) : rvs m m = [] := by
  unfold rvs
  rw [Int.sub_self]
  rfl
theorem rvs_succ (s n : Nat) : rvs (s : Int) ((s + (n + 1) : Nat) : Int) = ((s + n : Nat) : Int) :: rvs (s : Int) ((s + n : Nat) : Int) := by
  unfold rvs
  have e1 : (((s + (n + 1) : Nat) : Int) - (s : Int)).toNat = n + 1 := by omega
  have e2 : (((s + n : Nat) : Int) - (s : Int)).toNat = n := by omega
  rw [e1, e2, List.range_succ_eq_map, List.map_cons, List.map_map]
  congr 1
  · omega
  · refine List.map_congr_left fun i _ => ?_
    show (s : Int) + ((n + 1 : Nat) : Int) - 1 + ((i + 1 : Nat) : Int) * (-1) = (s : Int) + (n : Int) - 1 + (i : Int) * (-1)
    omega
/-- leading a deed ahead, exchange by exchange -/
theorem xchs_lead {y : Int} {C : List Int} : ∀ (n : Nat) {A B : List Int}, A.length = n → (∀ a ∈ A, m a y = false) → xchs m (rvs (C.length : Int) ((C.length + n : Nat) : Int)) (C ++ (A ++ y :: B)) = some (C ++ y :: (A ++ B))
  | 0, A, B, hl, _ => by
    rw [List.length_eq_zero_iff.mp hl, Nat.add_zero, rvs_nil]
    rfl
  | n + 1, A, B, hl, h => by
    rcases List.eq_nil_or_concat A with e | ⟨A', a, rfl⟩
    · rw [e] at hl
      cases hl
    · rw [List.concat_eq_append] at *
      rw [List.length_append, List.length_cons, List.length_nil] at hl
      have lA : A'.length = n := by omega
      rw [rvs_succ]
      show (xst m ((C.length + n : Nat) : Int) (C ++ (A' ++ [a] ++ y :: B))).bind (xchs m _) = _
      have e1 : C ++ (A' ++ [a] ++ y :: B) = (C ++ A') ++ a :: y :: B := by simp
      have e2 : C.length + n = (C ++ A').length := by rw [List.length_append, lA]
      unfold xst
      rw [if_neg (by omega), Int.toNat_natCast, e1]
      conv => lhs; rw [e2]
      rw [xs1_mid, if_neg (by rw [h a (by simp)]; decide)]
      show xchs m (rvs (C.length : Int) (((C ++ A').length : Nat) : Int)) ((C ++ A') ++ y :: a :: B) = _
      rw [← e2]
      have z := xchs_lead (C := C) n (A := A') (B := a :: B) lA fun b hb => h b (List.mem_append_left _ hb)
      rw [List.append_assoc]
      rw [z]
      simp
/-! ### led -/
def ldo (m : Int → Int → Bool) : Nat → List Int → List Int → Option (List Int)
  | _, _, [] => some []
  | i, xs, y :: ys => if 0 ≤ pf m y xs 0 then (ldo m (i + 1) (xs.eraseIdx (pf m y xs 0).toNat) ys).map fun r => rvs (i : Int) ((i : Int) + pf m y xs 0) ++ r else none
def ledF (m : Int → Int → Bool) (xs ys : List Int) : Option (List Int) := if xs.length = ys.length then ldo m 0 xs ys else none
theorem ldo_cons (hm : Mi m) {i : Nat} {xs ys A B : List Int} {y : Int} (h : Fs m y xs A B) : ldo m i xs (y :: ys) = (ldo m (i + 1) (A ++ B) ys).map fun r => rvs (i : Int) ((i + A.length : Nat) : Int) ++ r := by
  show (if 0 ≤ pf m y xs 0 then _ else none) = _
  rw [pf_at hm h, if_pos (by omega), Int.toNat_natCast, h.erase]
  rfl
theorem ldo_none (hm : Mi m) {i : Nat} {xs ys : List Int} {y : Int} (h : ¬ Fi m y xs) : ldo m i xs (y :: ys) = none := by
  show (if 0 ≤ pf m y xs 0 then _ else none) = _
  rw [if_neg fun z => h ((pf_ge hm).mp z)]
theorem tr_cons_iff (hm : Mi m) {y : Int} {xs ys A B : List Int} (h : Fs m y xs A B) : Tr m xs (y :: ys) ↔ Tr m (A ++ B) ys := by
  constructor
  · intro t
    obtain ⟨A', B', h', t'⟩ := h.same hm t
    have l := pf_at hm h'
    have e : pf m y (y :: ys) 0 = 0 := by simp [pf]
    rw [e] at l
    have e2 := List.length_eq_zero_iff.mp (show A'.length = 0 by omega)
    rw [e2] at t'
    have e3 := h'.1
    rw [e2] at e3
    injection e3 with _ e3
    rw [e3]
    exact t'
  · exact fun t => h.tr.trans (t.cons y)
theorem ldo_tr (hm : Mi m) : ∀ {ys xs : List Int} {i : Nat}, xs.length = ys.length → ((ldo m i xs ys).isSome = true ↔ Tr m xs ys)
  | [], xs, i, hl => by
    rw [List.length_eq_zero_iff.mp hl]
    exact ⟨fun _ => .rfl _, fun _ => rfl⟩
  | y :: ys, xs, i, hl => by
    by_cases hf : Fi m y xs
    · obtain ⟨A, B, h⟩ := hf
      have l2 : (A ++ B).length = ys.length := by
        rw [h.1, List.length_append, List.length_cons, List.length_cons] at hl
        rw [List.length_append]
        omega
      rw [ldo_cons hm h, Option.isSome_map, ldo_tr hm l2, tr_cons_iff hm h]
    · rw [ldo_none hm hf]
      constructor
      · intro h
        cases h
      · intro t
        exact absurd (Fi.same hm (t.symm hm) fi_head) hf
theorem ledF_tr (hm : Mi m) {xs ys : List Int} : (ledF m xs ys).isSome = true ↔ Tr m xs ys := by
  unfold ledF
  by_cases e : xs.length = ys.length
  · rw [if_pos e, ldo_tr hm e]
  · rw [if_neg e]
    exact ⟨fun h => absurd h Bool.false_ne_true, fun t => absurd t.len e⟩
theorem ldo_xch (hm : Mi m) : ∀ {ys xs pl C : List Int}, xs.length = ys.length → ldo m C.length xs ys = some pl → xchs m pl (C ++ xs) = some (C ++ ys)
  | [], xs, pl, C, hl, h => by
    rw [List.length_eq_zero_iff.mp hl]
    have e : ([] : List Int) = pl := Option.some.inj h
    rw [← e]
    rfl
  | y :: ys, xs, pl, C, hl, h => by
    by_cases hf : Fi m y xs
    · obtain ⟨A, B, hs⟩ := hf
      have l2 : (A ++ B).length = ys.length := by
        rw [hs.1, List.length_append, List.length_cons, List.length_cons] at hl
        rw [List.length_append]
        omega
      rw [ldo_cons hm hs] at h
      cases q : ldo m (C.length + 1) (A ++ B) ys with
      | none => rw [q] at h; cases h
      | some r =>
        rw [q] at h
        have e : rvs (C.length : Int) ((C.length + A.length : Nat) : Int) ++ r = pl := Option.some.inj h
        rw [← e, xchs_app, hs.1, xchs_lead A.length rfl hs.2]
        show xchs m r (C ++ y :: (A ++ B)) = _
        have z := ldo_xch hm (C := C ++ [y]) l2 (by rw [List.length_append, List.length_cons, List.length_nil]; exact q)
        rw [List.append_assoc, List.append_assoc] at z
        exact z
    · rw [ldo_none hm hf] at h
      cases h
theorem ledF_xch (hm : Mi m) {xs ys pl : List Int} (h : ledF m xs ys = some pl) : xchs m pl xs = some ys := by
  unfold ledF at h
  by_cases e : xs.length = ys.length
  · rw [if_pos e] at h
    exact ldo_xch hm (C := []) e h
  · rw [if_neg e] at h
    cases h
theorem ldo_len (hm : Mi m) : ∀ {ys xs r : List Int} {i M : Nat}, xs.length ≤ M → ldo m i xs ys = some r → r.length ≤ ys.length * M
  | [], xs, r, i, M, hl, h => by
    have e : ([] : List Int) = r := Option.some.inj h
    rw [← e]
    exact Nat.zero_le _
  | y :: ys, xs, r, i, M, hl, h => by
    by_cases hf : Fi m y xs
    · obtain ⟨A, B, hs⟩ := hf
      rw [ldo_cons hm hs] at h
      have lx : xs.length = A.length + B.length + 1 := by
        rw [hs.1, List.length_append, List.length_cons]
        omega
      cases q : ldo m (i + 1) (A ++ B) ys with
      | none => rw [q] at h; cases h
      | some r2 =>
        rw [q] at h
        have e : rvs (i : Int) ((i + A.length : Nat) : Int) ++ r2 = r := Option.some.inj h
        have z := ldo_len hm (M := M) (by rw [List.length_append]; omega) q
        have w : (rvs (i : Int) ((i + A.length : Nat) : Int)).length = A.length := by
          unfold rvs
          rw [List.length_map, List.length_range]
          omega
        rw [← e, List.length_append, w, List.length_cons, Nat.succ_mul]
        omega
    · rw [ldo_none hm hf] at h
      cases h
theorem ledF_len (hm : Mi m) {xs ys pl : List Int} (h : ledF m xs ys = some pl) : pl.length ≤ ys.length * xs.length := by
  unfold ledF at h
  split at h
  · exact ldo_len hm (Nat.le_refl _) h
  · cases h
/-- the exchanges show that the two are the same -/
def shw (m : Int → Int → Bool) (pl xs ys : List Int) : Bool := match xchs m pl xs with
  | some zs => decide (zs = ys)
  | none => false
end
end J
/-! P4: the program's defs over two rows -/
namespace J
open PySem PySem.Spec PyProof.Rows L2
/-! ### comprehensions -/
theorem cg {α : Type} {j : Nat} {Tt : DT} {Te : DE} {P : D → Prop} {δ : List DV} {p : α → Bool} {f g : α → D} : ∀ (xs : List α), (∀ x ∈ xs, ∀ R : Bool → Prop, R (p x) → Tt (δ.set j (.tr (g x))) R) → (∀ x ∈ xs, ∀ R : D → Prop, R (f x) → Te (δ.set j (.tr (g x))) R) → (∀ x, (f x).plain = true) → ∀ acc : List D, acc.length + xs.length ≤ 100000 →
    P (.mv (.olst (acc ++ (xs.filter p).map f))) → compGo j Tt Te P (xs.map g) acc δ
  | [], _, _, _, acc, _, h => by
    rw [List.filter_nil, List.map_nil, List.append_nil] at h
    exact h
  | x :: xs, ht, he, hf, acc, hl, h => by
    rw [List.length_cons] at hl
    refine compGo_op fun N hN => ?_
    refine ht x List.mem_cons_self _ ?_
    cases e : p x with
    | true =>
      rw [List.filter_cons_of_pos e] at h
      refine he x List.mem_cons_self _ ⟨hf x, by omega, ?_⟩
      rw [hN]
      refine cg xs (fun y hy => ht y (List.mem_cons_of_mem _ hy)) (fun y hy => he y (List.mem_cons_of_mem _ hy)) hf _ (by rw [List.length_append, List.length_cons, List.length_nil]; omega) ?_
      rw [List.append_assoc]
      exact h
    | false =>
      rw [List.filter_cons_of_neg (by rw [e]; decide)] at h
      show N acc δ
      rw [hN]
      exact cg xs (fun y hy => ht y (List.mem_cons_of_mem _ hy)) (fun y hy => he y (List.mem_cons_of_mem _ hy)) hf _ (by omega) h
theorem cg0 {α : Type} {j : Nat} {Te : DE} {P : D → Prop} {δ : List DV} {f g : α → D} (xs : List α) (he : ∀ x ∈ xs, ∀ R : D → Prop, R (f x) → Te (δ.set j (.tr (g x))) R) (hf : ∀ x, (f x).plain = true) (acc : List D) (hl : acc.length + xs.length ≤ 100000)
    (h : P (.mv (.olst (acc ++ xs.map f)))) : compGo j dYes Te P (xs.map g) acc δ :=
  cg (p := fun _ => true) xs (fun _ _ R hR => hR) he hf acc hl (by rw [List.filter_eq_self.mpr fun _ _ => rfl]; exact h)
theorem in_t {i j k : Int} {P : D → Prop} : gInT (.int i) (.tup [.int j, .int k]) P = P (.bl (decide (i = j) || decide (i = k))) := rfl
theorem ev_bb {p q : Bool} : PyData.eqv (D.py (.bl p)) (D.py (.bl q)) = (p == q) := rfl
theorem is_bb {f : Bool → Bool → Bool} {p q : Bool} {P : D → Prop} : gIs f (.bl p) (.bl q) P = P (.bl (f p q)) := rfl
theorem nn_mv {ds : List D} : D.isNon (.mv (.olst ds)) = false := rfl
theorem nn_lst {ds : List D} : D.isNon (.lst ds) = false := rfl
theorem nn_olst {ds : List D} : D.isNon (.olst ds) = false := rfl
theorem nn_tup {ds : List D} : D.isNon (.tup ds) = false := rfl
theorem nn_non : D.isNon .non = true := rfl
def kB (n x : Int) : Bool := decide (0 ≤ x ∧ x < n)
theorem kB_all {n : Int} {xs : List Int} : xs.all (kB n) = true ↔ Kinds n xs := by
  rw [List.all_eq_true]
  constructor
  · intro h x hx
    exact of_decide_eq_true (h x hx)
  · intro h x hx
    exact decide_eq_true (h x hx)
/-! ### part_of -/
def G_part_of (_K : PySem.W.Frag) : GD := fun ds P => ∃ xs a b, ds = [rD xs, .int a, .int b] ∧ xs.length ≤ 1000 ∧ P (.mv (.olst ((prt a b xs).map .int)))
/-! ### part_of -/
abbrev N_part_of : List Str := ["row", "one", "other", "kind"]
def T_part_of_c1 (K : PySem.W.Frag) : DE := (dVar 3)
def T_part_of_c1t (K : PySem.W.Frag) : DT := (dT (dOp gInT (dVar 3) (dTup (dCons (dVar 1) (dCons (dVar 2) dNil)))))
def T_part_of (K : PySem.W.Frag) : DS := (dRet (dLc 3 (dIl (dVar 0)) (T_part_of_c1t K) (T_part_of_c1 K)))
theorem rd_part_of {K : PySem.W.Frag} : ∀ ds Q, G_part_of K ds Q → T_part_of K { nx := fun _ => Q .non, rt := Q } (δof N_part_of.length ds) := by
  rintro _ Q ⟨xs, a, b, rfl, hl, h⟩
  simp only [T_part_of, rD, dSeq, dIfS, dT, dTn, dTa, dTo, dOp, dVar, dC, dFz_eq, dCB, dCons, dNil, dCall, dCallB, dMeth, dMethB, dSet, dApp, dExt, dRet, dRetM, dNx, dDrop, dNeg, dAnd, dOr, dNot, dIf, dCh, dCh3, dU, dTup, dLst, dFld, dIsi, dIl, dIe, dIr1, dIr2, dIv1, dgN, dgT, putAll, dFor, dPar2, dPar3, dSetT, dLc, dYes, dSl, dNo, dSome, dRev, dNev, dSset, dCount, dIndex, dLrg1, dLrg2, dTwo, un_non, un_int, un_bl, un_str, un_lst, un_tup, un_obj, un_dct, un_scr, un_olst, un_oll, un_oobj, un_mv, un_m, un_p, pl_non, pl_int, pl_bl, pl_str, pl_lst, pl_tup, pl_obj, pl_dct, pl_scr, pl_m, pl_p, fzm_non, fzm_int, fzm_bl, fzm_lst, fzm_tup, fzm_obj, fzm_scr, fzm_olst, fzm_oll, fzm_oobj, fzm_m, frz_non, frz_int, frz_bl, frz_str, frz_lst, frz_tup, frz_obj, frz_dct, frz_scr, frz_olst, frz_oll, frz_m, fz_no, fz_tr, see_no, see_tr, asB_bl, asI_int, asgD_non, asgD_int, asgD_bl, asgD_lst, asgD_tup, asgD_obj, asgD_mv, asgD_m, it_lst, it_olst, it_scr, li_lst, li_olst, pit_lst, pit_scr, sz_lst, sz_olst, sz_oll, sz_scr, sz_tup, ad_int, ad_ll, ad_oo, ad_lo, ad_ol, mu_int, mu_l, mu_o, gI_int, gI0_int, gI2_int, ii_eqv, co_int, co_bl, co_non, co_row, co_rowO, co_nil, co_nilO, co_ps, co_p, co_p2, co_rows, ev_ll, ev_ol, ev_lo, ev_oo, ev_ln, ev_lno, ev_on, ev_ono, in_ps, in_row, gEq, gNe, gIn, gNotIn, g1, g2, gLen, gList, δof, List.getElem?_cons_zero, List.getElem?_cons_succ, List.getElem?_nil, List.set_cons_zero, List.set_cons_succ, List.map_cons, List.map_nil, List.length_cons, List.length_nil, List.replicate_succ, List.replicate_zero, List.cons_append, List.nil_append, Option.bind_some, Option.bind_none, List.all_cons, List.all_nil, List.append_nil, Nat.reduceAdd, Nat.reduceSub, true_and, and_true, Bool.and_true, Bool.true_and]
  refine cg (p := fun k => decide (k = a) || decide (k = b)) (f := D.int) xs (fun x _ R hR => ?_) (fun x _ R hR => ?_) (fun _ => rfl) [] (by rw [List.length_nil]; omega) h
  · simp only [T_part_of_c1t, dSeq, dIfS, dT, dTn, dTa, dTo, dOp, dVar, dC, dFz_eq, dCB, dCons, dNil, dCall, dCallB, dMeth, dMethB, dSet, dApp, dExt, dRet, dRetM, dNx, dDrop, dNeg, dAnd, dOr, dNot, dIf, dCh, dCh3, dU, dTup, dLst, dFld, dIsi, dIl, dIe, dIr1, dIr2, dIv1, dgN, dgT, putAll, dFor, dPar2, dPar3, dSetT, dLc, dYes, dSl, dNo, dSome, dRev, dNev, dSset, dCount, dIndex, dLrg1, dLrg2, dTwo, un_non, un_int, un_bl, un_str, un_lst, un_tup, un_obj, un_dct, un_scr, un_olst, un_oll, un_oobj, un_mv, un_m, un_p, pl_non, pl_int, pl_bl, pl_str, pl_lst, pl_tup, pl_obj, pl_dct, pl_scr, pl_m, pl_p, fzm_non, fzm_int, fzm_bl, fzm_lst, fzm_tup, fzm_obj, fzm_scr, fzm_olst, fzm_oll, fzm_oobj, fzm_m, frz_non, frz_int, frz_bl, frz_str, frz_lst, frz_tup, frz_obj, frz_dct, frz_scr, frz_olst, frz_oll, frz_m, fz_no, fz_tr, see_no, see_tr, asB_bl, asI_int, asgD_non, asgD_int, asgD_bl, asgD_lst, asgD_tup, asgD_obj, asgD_mv, asgD_m, it_lst, it_olst, it_scr, li_lst, li_olst, pit_lst, pit_scr, sz_lst, sz_olst, sz_oll, sz_scr, sz_tup, ad_int, ad_ll, ad_oo, ad_lo, ad_ol, mu_int, mu_l, mu_o, gI_int, gI0_int, gI2_int, ii_eqv, co_int, co_bl, co_non, co_row, co_rowO, co_nil, co_nilO, co_ps, co_p, co_p2, co_rows, ev_ll, ev_ol, ev_lo, ev_oo, ev_ln, ev_lno, ev_on, ev_ono, in_ps, in_row, gEq, gNe, gIn, gNotIn, g1, g2, gLen, gList, δof, List.getElem?_cons_zero, List.getElem?_cons_succ, List.getElem?_nil, List.set_cons_zero, List.set_cons_succ, List.map_cons, List.map_nil, List.length_cons, List.length_nil, List.replicate_succ, List.replicate_zero, List.cons_append, List.nil_append, Option.bind_some, Option.bind_none, List.all_cons, List.all_nil, List.append_nil, Nat.reduceAdd, Nat.reduceSub, true_and, and_true, Bool.and_true, Bool.true_and, in_t]
    exact ⟨by decide, hR⟩
  · simp only [T_part_of_c1, dSeq, dIfS, dT, dTn, dTa, dTo, dOp, dVar, dC, dFz_eq, dCB, dCons, dNil, dCall, dCallB, dMeth, dMethB, dSet, dApp, dExt, dRet, dRetM, dNx, dDrop, dNeg, dAnd, dOr, dNot, dIf, dCh, dCh3, dU, dTup, dLst, dFld, dIsi, dIl, dIe, dIr1, dIr2, dIv1, dgN, dgT, putAll, dFor, dPar2, dPar3, dSetT, dLc, dYes, dSl, dNo, dSome, dRev, dNev, dSset, dCount, dIndex, dLrg1, dLrg2, dTwo, un_non, un_int, un_bl, un_str, un_lst, un_tup, un_obj, un_dct, un_scr, un_olst, un_oll, un_oobj, un_mv, un_m, un_p, pl_non, pl_int, pl_bl, pl_str, pl_lst, pl_tup, pl_obj, pl_dct, pl_scr, pl_m, pl_p, fzm_non, fzm_int, fzm_bl, fzm_lst, fzm_tup, fzm_obj, fzm_scr, fzm_olst, fzm_oll, fzm_oobj, fzm_m, frz_non, frz_int, frz_bl, frz_str, frz_lst, frz_tup, frz_obj, frz_dct, frz_scr, frz_olst, frz_oll, frz_m, fz_no, fz_tr, see_no, see_tr, asB_bl, asI_int, asgD_non, asgD_int, asgD_bl, asgD_lst, asgD_tup, asgD_obj, asgD_mv, asgD_m, it_lst, it_olst, it_scr, li_lst, li_olst, pit_lst, pit_scr, sz_lst, sz_olst, sz_oll, sz_scr, sz_tup, ad_int, ad_ll, ad_oo, ad_lo, ad_ol, mu_int, mu_l, mu_o, gI_int, gI0_int, gI2_int, ii_eqv, co_int, co_bl, co_non, co_row, co_rowO, co_nil, co_nilO, co_ps, co_p, co_p2, co_rows, ev_ll, ev_ol, ev_lo, ev_oo, ev_ln, ev_lno, ev_on, ev_ono, in_ps, in_row, gEq, gNe, gIn, gNotIn, g1, g2, gLen, gList, δof, List.getElem?_cons_zero, List.getElem?_cons_succ, List.getElem?_nil, List.set_cons_zero, List.set_cons_succ, List.map_cons, List.map_nil, List.length_cons, List.length_nil, List.replicate_succ, List.replicate_zero, List.cons_append, List.nil_append, Option.bind_some, Option.bind_none, List.all_cons, List.all_nil, List.append_nil, Nat.reduceAdd, Nat.reduceSub, true_and, and_true, Bool.and_true, Bool.true_and]
    exact hR
/-! ### led -/
def G_led (K : PySem.W.Frag) : GD := fun ds P => ∃ n ps xs ys, ds = [mK K n ps, rD xs, rD ys] ∧ xs.length ≤ 200 ∧ ys.length ≤ 200 ∧ (match ledF (mnd ps) xs ys with
  | none => P .non
  | some pl => P (.mv (.olst (pl.map .int))))
/-! ### led -/
abbrev N_led : List Str := ["minds", "one", "other", "places", "now", "at", "kind", "place"]
def T_led_f1 (K : PySem.W.Frag) : DS := (dSeq (dSet 7 (dFz (dCall (G_place_first K) (dCons (dVar 0) (dCons (dFz (dSl (dVar 4) (dSome (dVar 5)) dNo)) (dCons (dVar 6) dNil))))))
  (dSeq (dIfS (dT (dOp gLt (dVar 7) (dC (.int 0)))) (dRet (dC .non)) dNx)
  (dSeq (dSet 4 (dFz (dOp gAdd (dOp gAdd (dSl (dVar 4) dNo (dSome (dVar 5))) (dLst (dCons (dVar 6) dNil))) (dCall (G_without K) (dCons (dFz (dSl (dVar 4) (dSome (dVar 5)) dNo)) (dCons (dVar 7) dNil))))))
  (dExt 3 (dLrv2 (dVar 5) (dOp gAdd (dVar 5) (dVar 7)))))))
def T_led (K : PySem.W.Frag) : DS := (dSeq (dIfS (dT (dOp gNe (dCB gLen (dCons (dVar 1) dNil)) (dCB gLen (dCons (dVar 2) dNil)))) (dRet (dC .non)) dNx)
  (dSeq (dSet 3 (dLst dNil))
  (dSeq (dSet 4 (dFz (dCB gList (dCons (dVar 1) dNil))))
  (dSeq (dFor (dIe (dCons (dVar 2) dNil)) (dgT [5, 6]) (T_led_f1 K))
  (dRetM 3)))))
theorem rvs_len (a b : Int) : (rvs a b).length = (b - a).toNat := by
  unfold rvs
  rw [List.length_map, List.length_range]
theorem led_f {K : PySem.W.Frag} {n : Int} {ps : List (Int × Int)} {one other : D} {E : EndsD} : ∀ (ys C rest acc : List Int) (e5 e6 e7 : DV), rest.length = ys.length → C.length + ys.length ≤ 200 → acc.length ≤ C.length * 200 →
    (match ldo (mnd ps) C.length rest ys with
      | none => E.rt .non
      | some r => ∀ e4 e5 e6 e7, E.nx [.tr (mK K n ps), .tr one, .tr other, .tr (.olst ((acc ++ r).map .int)), e4, e5, e6, e7]) →
    forGo (dgT [5, 6]) (T_led_f1 K) E (((ys.map D.int).zipIdx C.length).map fun p => D.tup [.int (p.2 : Int), p.1]) [.tr (mK K n ps), .tr one, .tr other, .tr (.olst (acc.map .int)), .tr (rD (C ++ rest)), e5, e6, e7]
  | [], C, rest, acc, e5, e6, e7, hl, hc, ha, h => by
    have z := h (.tr (rD (C ++ rest))) e5 e6 e7
    rw [List.append_nil] at z
    exact z
  | y :: ys, C, rest, acc, e5, e6, e7, hl, hc, ha, h => by
    rw [List.length_cons] at hl hc
    rw [List.map_cons, List.zipIdx_cons, List.map_cons]
    refine forGo_op fun N hN => ?_
    simp only [T_led_f1, mK, rD, dSeq, dIfS, dT, dTn, dTa, dTo, dOp, dVar, dC, dFz_eq, dCB, dCons, dNil, dCall, dCallB, dMeth, dMethB, dSet, dApp, dExt, dRet, dRetM, dNx, dDrop, dNeg, dAnd, dOr, dNot, dIf, dCh, dCh3, dU, dTup, dLst, dFld, dIsi, dIl, dIe, dIr1, dIr2, dIv1, dgN, dgT, putAll, dFor, dPar2, dPar3, dSetT, dLc, dYes, dSl, dNo, dSome, dRev, dNev, dSset, dCount, dIndex, dLrg1, dLrg2, dTwo, un_non, un_int, un_bl, un_str, un_lst, un_tup, un_obj, un_dct, un_scr, un_olst, un_oll, un_oobj, un_mv, un_m, un_p, pl_non, pl_int, pl_bl, pl_str, pl_lst, pl_tup, pl_obj, pl_dct, pl_scr, pl_m, pl_p, fzm_non, fzm_int, fzm_bl, fzm_lst, fzm_tup, fzm_obj, fzm_scr, fzm_olst, fzm_oll, fzm_oobj, fzm_m, frz_non, frz_int, frz_bl, frz_str, frz_lst, frz_tup, frz_obj, frz_dct, frz_scr, frz_olst, frz_oll, frz_m, fz_no, fz_tr, see_no, see_tr, asB_bl, asI_int, asgD_non, asgD_int, asgD_bl, asgD_lst, asgD_tup, asgD_obj, asgD_mv, asgD_m, it_lst, it_olst, it_scr, li_lst, li_olst, pit_lst, pit_scr, sz_lst, sz_olst, sz_oll, sz_scr, sz_tup, ad_int, ad_ll, ad_oo, ad_lo, ad_ol, mu_int, mu_l, mu_o, gI_int, gI0_int, gI2_int, ii_eqv, co_int, co_bl, co_non, co_row, co_rowO, co_nil, co_nilO, co_ps, co_p, co_p2, co_rows, ev_ll, ev_ol, ev_lo, ev_oo, ev_ln, ev_lno, ev_on, ev_ono, in_ps, in_row, gEq, gNe, gIn, gNotIn, g1, g2, gLen, gList, δof, List.getElem?_cons_zero, List.getElem?_cons_succ, List.getElem?_nil, List.set_cons_zero, List.set_cons_succ, List.map_cons, List.map_nil, List.length_cons, List.length_nil, List.replicate_succ, List.replicate_zero, List.cons_append, List.nil_append, Option.bind_some, Option.bind_none, List.all_cons, List.all_nil, List.append_nil, Nat.reduceAdd, Nat.reduceSub, true_and, and_true, Bool.and_true, Bool.true_and]
    rw [cut_from (by rw [List.length_map, List.length_append]; omega), ← List.map_drop, List.drop_left]
    refine ⟨n, ps, rest, y, rfl, ?_⟩
    by_cases hf : Fi (mnd ps) y rest
    · obtain ⟨A, B, hs⟩ := hf
      have lr : rest.length = A.length + B.length + 1 := by
        rw [hs.1, List.length_append, List.length_cons]
        omega
      rw [ldo_cons (mi_mnd ps) hs] at h
      rw [pf_at (mi_mnd ps) hs]
      simp only [dSeq, dIfS, dT, dTn, dTa, dTo, dOp, dVar, dC, dFz_eq, dCB, dCons, dNil, dCall, dCallB, dMeth, dMethB, dSet, dApp, dExt, dRet, dRetM, dNx, dDrop, dNeg, dAnd, dOr, dNot, dIf, dCh, dCh3, dU, dTup, dLst, dFld, dIsi, dIl, dIe, dIr1, dIr2, dIv1, dgN, dgT, putAll, dFor, dPar2, dPar3, dSetT, dLc, dYes, dSl, dNo, dSome, dRev, dNev, dSset, dCount, dIndex, dLrg1, dLrg2, dTwo, un_non, un_int, un_bl, un_str, un_lst, un_tup, un_obj, un_dct, un_scr, un_olst, un_oll, un_oobj, un_mv, un_m, un_p, pl_non, pl_int, pl_bl, pl_str, pl_lst, pl_tup, pl_obj, pl_dct, pl_scr, pl_m, pl_p, fzm_non, fzm_int, fzm_bl, fzm_lst, fzm_tup, fzm_obj, fzm_scr, fzm_olst, fzm_oll, fzm_oobj, fzm_m, frz_non, frz_int, frz_bl, frz_str, frz_lst, frz_tup, frz_obj, frz_dct, frz_scr, frz_olst, frz_oll, frz_m, fz_no, fz_tr, see_no, see_tr, asB_bl, asI_int, asgD_non, asgD_int, asgD_bl, asgD_lst, asgD_tup, asgD_obj, asgD_mv, asgD_m, it_lst, it_olst, it_scr, li_lst, li_olst, pit_lst, pit_scr, sz_lst, sz_olst, sz_oll, sz_scr, sz_tup, ad_int, ad_ll, ad_oo, ad_lo, ad_ol, mu_int, mu_l, mu_o, gI_int, gI0_int, gI2_int, ii_eqv, co_int, co_bl, co_non, co_row, co_rowO, co_nil, co_nilO, co_ps, co_p, co_p2, co_rows, ev_ll, ev_ol, ev_lo, ev_oo, ev_ln, ev_lno, ev_on, ev_ono, in_ps, in_row, gEq, gNe, gIn, gNotIn, g1, g2, gLen, gList, δof, List.getElem?_cons_zero, List.getElem?_cons_succ, List.getElem?_nil, List.set_cons_zero, List.set_cons_succ, List.map_cons, List.map_nil, List.length_cons, List.length_nil, List.replicate_succ, List.replicate_zero, List.cons_append, List.nil_append, Option.bind_some, Option.bind_none, List.all_cons, List.all_nil, List.append_nil, Nat.reduceAdd, Nat.reduceSub, true_and, and_true, Bool.and_true, Bool.true_and]
      rw [decide_eq_false (by omega)]
      simp only [dSeq, dIfS, dT, dTn, dTa, dTo, dOp, dVar, dC, dFz_eq, dCB, dCons, dNil, dCall, dCallB, dMeth, dMethB, dSet, dApp, dExt, dRet, dRetM, dNx, dDrop, dNeg, dAnd, dOr, dNot, dIf, dCh, dCh3, dU, dTup, dLst, dFld, dIsi, dIl, dIe, dIr1, dIr2, dIv1, dgN, dgT, putAll, dFor, dPar2, dPar3, dSetT, dLc, dYes, dSl, dNo, dSome, dRev, dNev, dSset, dCount, dIndex, dLrg1, dLrg2, dTwo, un_non, un_int, un_bl, un_str, un_lst, un_tup, un_obj, un_dct, un_scr, un_olst, un_oll, un_oobj, un_mv, un_m, un_p, pl_non, pl_int, pl_bl, pl_str, pl_lst, pl_tup, pl_obj, pl_dct, pl_scr, pl_m, pl_p, fzm_non, fzm_int, fzm_bl, fzm_lst, fzm_tup, fzm_obj, fzm_scr, fzm_olst, fzm_oll, fzm_oobj, fzm_m, frz_non, frz_int, frz_bl, frz_str, frz_lst, frz_tup, frz_obj, frz_dct, frz_scr, frz_olst, frz_oll, frz_m, fz_no, fz_tr, see_no, see_tr, asB_bl, asI_int, asgD_non, asgD_int, asgD_bl, asgD_lst, asgD_tup, asgD_obj, asgD_mv, asgD_m, it_lst, it_olst, it_scr, li_lst, li_olst, pit_lst, pit_scr, sz_lst, sz_olst, sz_oll, sz_scr, sz_tup, ad_int, ad_ll, ad_oo, ad_lo, ad_ol, mu_int, mu_l, mu_o, gI_int, gI0_int, gI2_int, ii_eqv, co_int, co_bl, co_non, co_row, co_rowO, co_nil, co_nilO, co_ps, co_p, co_p2, co_rows, ev_ll, ev_ol, ev_lo, ev_oo, ev_ln, ev_lno, ev_on, ev_ono, in_ps, in_row, gEq, gNe, gIn, gNotIn, g1, g2, gLen, gList, δof, List.getElem?_cons_zero, List.getElem?_cons_succ, List.getElem?_nil, List.set_cons_zero, List.set_cons_succ, List.map_cons, List.map_nil, List.length_cons, List.length_nil, List.replicate_succ, List.replicate_zero, List.cons_append, List.nil_append, Option.bind_some, Option.bind_none, List.all_cons, List.all_nil, List.append_nil, Nat.reduceAdd, Nat.reduceSub, true_and, and_true, Bool.and_true, Bool.true_and]
      rw [cut_to (by rw [List.length_map, List.length_append]; omega), ← List.map_take, List.take_left]
      have e1 : List.map D.int C ++ [D.int y] = (C ++ [y]).map D.int := by rw [List.map_append]; rfl
      simp only [e1, dSeq, dIfS, dT, dTn, dTa, dTo, dOp, dVar, dC, dFz_eq, dCB, dCons, dNil, dCall, dCallB, dMeth, dMethB, dSet, dApp, dExt, dRet, dRetM, dNx, dDrop, dNeg, dAnd, dOr, dNot, dIf, dCh, dCh3, dU, dTup, dLst, dFld, dIsi, dIl, dIe, dIr1, dIr2, dIv1, dgN, dgT, putAll, dFor, dPar2, dPar3, dSetT, dLc, dYes, dSl, dNo, dSome, dRev, dNev, dSset, dCount, dIndex, dLrg1, dLrg2, dTwo, un_non, un_int, un_bl, un_str, un_lst, un_tup, un_obj, un_dct, un_scr, un_olst, un_oll, un_oobj, un_mv, un_m, un_p, pl_non, pl_int, pl_bl, pl_str, pl_lst, pl_tup, pl_obj, pl_dct, pl_scr, pl_m, pl_p, fzm_non, fzm_int, fzm_bl, fzm_lst, fzm_tup, fzm_obj, fzm_scr, fzm_olst, fzm_oll, fzm_oobj, fzm_m, frz_non, frz_int, frz_bl, frz_str, frz_lst, frz_tup, frz_obj, frz_dct, frz_scr, frz_olst, frz_oll, frz_m, fz_no, fz_tr, see_no, see_tr, asB_bl, asI_int, asgD_non, asgD_int, asgD_bl, asgD_lst, asgD_tup, asgD_obj, asgD_mv, asgD_m, it_lst, it_olst, it_scr, li_lst, li_olst, pit_lst, pit_scr, sz_lst, sz_olst, sz_oll, sz_scr, sz_tup, ad_int, ad_ll, ad_oo, ad_lo, ad_ol, mu_int, mu_l, mu_o, gI_int, gI0_int, gI2_int, ii_eqv, co_int, co_bl, co_non, co_row, co_rowO, co_nil, co_nilO, co_ps, co_p, co_p2, co_rows, ev_ll, ev_ol, ev_lo, ev_oo, ev_ln, ev_lno, ev_on, ev_ono, in_ps, in_row, gEq, gNe, gIn, gNotIn, g1, g2, gLen, gList, δof, List.getElem?_cons_zero, List.getElem?_cons_succ, List.getElem?_nil, List.set_cons_zero, List.set_cons_succ, List.map_cons, List.map_nil, List.length_cons, List.length_nil, List.replicate_succ, List.replicate_zero, List.cons_append, List.nil_append, Option.bind_some, Option.bind_none, List.all_cons, List.all_nil, List.append_nil, Nat.reduceAdd, Nat.reduceSub, true_and, and_true, Bool.and_true, Bool.true_and]
      refine ⟨by decide, ⟨by rw [List.length_map]; omega, ?_⟩⟩
      refine ⟨rest, A.length, rfl, by omega, by omega, ?_⟩
      rw [hs.erase]
      simp only [dSeq, dIfS, dT, dTn, dTa, dTo, dOp, dVar, dC, dFz_eq, dCB, dCons, dNil, dCall, dCallB, dMeth, dMethB, dSet, dApp, dExt, dRet, dRetM, dNx, dDrop, dNeg, dAnd, dOr, dNot, dIf, dCh, dCh3, dU, dTup, dLst, dFld, dIsi, dIl, dIe, dIr1, dIr2, dIv1, dgN, dgT, putAll, dFor, dPar2, dPar3, dSetT, dLc, dYes, dSl, dNo, dSome, dRev, dNev, dSset, dCount, dIndex, dLrg1, dLrg2, dTwo, un_non, un_int, un_bl, un_str, un_lst, un_tup, un_obj, un_dct, un_scr, un_olst, un_oll, un_oobj, un_mv, un_m, un_p, pl_non, pl_int, pl_bl, pl_str, pl_lst, pl_tup, pl_obj, pl_dct, pl_scr, pl_m, pl_p, fzm_non, fzm_int, fzm_bl, fzm_lst, fzm_tup, fzm_obj, fzm_scr, fzm_olst, fzm_oll, fzm_oobj, fzm_m, frz_non, frz_int, frz_bl, frz_str, frz_lst, frz_tup, frz_obj, frz_dct, frz_scr, frz_olst, frz_oll, frz_m, fz_no, fz_tr, see_no, see_tr, asB_bl, asI_int, asgD_non, asgD_int, asgD_bl, asgD_lst, asgD_tup, asgD_obj, asgD_mv, asgD_m, it_lst, it_olst, it_scr, li_lst, li_olst, pit_lst, pit_scr, sz_lst, sz_olst, sz_oll, sz_scr, sz_tup, ad_int, ad_ll, ad_oo, ad_lo, ad_ol, mu_int, mu_l, mu_o, gI_int, gI0_int, gI2_int, ii_eqv, co_int, co_bl, co_non, co_row, co_rowO, co_nil, co_nilO, co_ps, co_p, co_p2, co_rows, ev_ll, ev_ol, ev_lo, ev_oo, ev_ln, ev_lno, ev_on, ev_ono, in_ps, in_row, gEq, gNe, gIn, gNotIn, g1, g2, gLen, gList, δof, List.getElem?_cons_zero, List.getElem?_cons_succ, List.getElem?_nil, List.set_cons_zero, List.set_cons_succ, List.map_cons, List.map_nil, List.length_cons, List.length_nil, List.replicate_succ, List.replicate_zero, List.cons_append, List.nil_append, Option.bind_some, Option.bind_none, List.all_cons, List.all_nil, List.append_nil, Nat.reduceAdd, Nat.reduceSub, true_and, and_true, Bool.and_true, Bool.true_and]
      have e2 : List.map D.int (C ++ [y]) ++ List.map D.int (A ++ B) = ((C ++ [y]) ++ (A ++ B)).map D.int := by rw [← List.map_append]
      simp only [e2, dSeq, dIfS, dT, dTn, dTa, dTo, dOp, dVar, dC, dFz_eq, dCB, dCons, dNil, dCall, dCallB, dMeth, dMethB, dSet, dApp, dExt, dRet, dRetM, dNx, dDrop, dNeg, dAnd, dOr, dNot, dIf, dCh, dCh3, dU, dTup, dLst, dFld, dIsi, dIl, dIe, dIr1, dIr2, dIv1, dgN, dgT, putAll, dFor, dPar2, dPar3, dSetT, dLc, dYes, dSl, dNo, dSome, dRev, dNev, dSset, dCount, dIndex, dLrg1, dLrg2, dTwo, un_non, un_int, un_bl, un_str, un_lst, un_tup, un_obj, un_dct, un_scr, un_olst, un_oll, un_oobj, un_mv, un_m, un_p, pl_non, pl_int, pl_bl, pl_str, pl_lst, pl_tup, pl_obj, pl_dct, pl_scr, pl_m, pl_p, fzm_non, fzm_int, fzm_bl, fzm_lst, fzm_tup, fzm_obj, fzm_scr, fzm_olst, fzm_oll, fzm_oobj, fzm_m, frz_non, frz_int, frz_bl, frz_str, frz_lst, frz_tup, frz_obj, frz_dct, frz_scr, frz_olst, frz_oll, frz_m, fz_no, fz_tr, see_no, see_tr, asB_bl, asI_int, asgD_non, asgD_int, asgD_bl, asgD_lst, asgD_tup, asgD_obj, asgD_mv, asgD_m, it_lst, it_olst, it_scr, li_lst, li_olst, pit_lst, pit_scr, sz_lst, sz_olst, sz_oll, sz_scr, sz_tup, ad_int, ad_ll, ad_oo, ad_lo, ad_ol, mu_int, mu_l, mu_o, gI_int, gI0_int, gI2_int, ii_eqv, co_int, co_bl, co_non, co_row, co_rowO, co_nil, co_nilO, co_ps, co_p, co_p2, co_rows, ev_ll, ev_ol, ev_lo, ev_oo, ev_ln, ev_lno, ev_on, ev_ono, in_ps, in_row, gEq, gNe, gIn, gNotIn, g1, g2, gLen, gList, δof, List.getElem?_cons_zero, List.getElem?_cons_succ, List.getElem?_nil, List.set_cons_zero, List.set_cons_succ, List.map_cons, List.map_nil, List.length_cons, List.length_nil, List.replicate_succ, List.replicate_zero, List.cons_append, List.nil_append, Option.bind_some, Option.bind_none, List.all_cons, List.all_nil, List.append_nil, Nat.reduceAdd, Nat.reduceSub, true_and, and_true, Bool.and_true, Bool.true_and, dLrv2]
      refine ⟨by rw [List.length_map, List.length_map, List.length_append, List.length_append, List.length_cons, List.length_nil]; omega, by omega, by omega, by omega, by omega, ?_⟩
      have e3 : ((C.length : Int) + (A.length : Int)) = ((C.length + A.length : Nat) : Int) := by omega
      rw [e3]
      refine ⟨by rw [List.length_map, List.length_map, rvs_len]; omega, ?_⟩
      rw [hN, ← List.map_append]
      have z := led_f (K := K) (n := n) (ps := ps) (one := one) (other := other) (E := E) ys (C ++ [y]) (A ++ B) (acc ++ rvs (C.length : Int) ((C.length + A.length : Nat) : Int)) (.tr (.int (C.length : Int))) (.tr (.int y)) (.tr (.int (A.length : Int)))
        (by rw [List.length_append]; omega) (by rw [List.length_append, List.length_cons, List.length_nil]; omega)
        (by rw [List.length_append, List.length_append, rvs_len, List.length_cons, List.length_nil]; omega) ?_
      · rw [List.length_append, List.length_cons, List.length_nil] at z
        exact z
      · rw [List.length_append, List.length_cons, List.length_nil]
        cases q : ldo (mnd ps) (C.length + (0 + 1)) (A ++ B) ys with
        | none =>
          rw [Nat.zero_add] at q
          rw [q] at h
          exact h
        | some r =>
          rw [Nat.zero_add] at q
          rw [q] at h
          intro e4 e5 e6 e7
          rw [List.append_assoc]
          exact h e4 e5 e6 e7
    · rw [ldo_none (mi_mnd ps) hf] at h
      have neg : pf (mnd ps) y rest 0 < 0 := Int.not_le.mp fun z => hf ((pf_ge (mi_mnd ps)).mp z)
      simp only [dSeq, dIfS, dT, dTn, dTa, dTo, dOp, dVar, dC, dFz_eq, dCB, dCons, dNil, dCall, dCallB, dMeth, dMethB, dSet, dApp, dExt, dRet, dRetM, dNx, dDrop, dNeg, dAnd, dOr, dNot, dIf, dCh, dCh3, dU, dTup, dLst, dFld, dIsi, dIl, dIe, dIr1, dIr2, dIv1, dgN, dgT, putAll, dFor, dPar2, dPar3, dSetT, dLc, dYes, dSl, dNo, dSome, dRev, dNev, dSset, dCount, dIndex, dLrg1, dLrg2, dTwo, un_non, un_int, un_bl, un_str, un_lst, un_tup, un_obj, un_dct, un_scr, un_olst, un_oll, un_oobj, un_mv, un_m, un_p, pl_non, pl_int, pl_bl, pl_str, pl_lst, pl_tup, pl_obj, pl_dct, pl_scr, pl_m, pl_p, fzm_non, fzm_int, fzm_bl, fzm_lst, fzm_tup, fzm_obj, fzm_scr, fzm_olst, fzm_oll, fzm_oobj, fzm_m, frz_non, frz_int, frz_bl, frz_str, frz_lst, frz_tup, frz_obj, frz_dct, frz_scr, frz_olst, frz_oll, frz_m, fz_no, fz_tr, see_no, see_tr, asB_bl, asI_int, asgD_non, asgD_int, asgD_bl, asgD_lst, asgD_tup, asgD_obj, asgD_mv, asgD_m, it_lst, it_olst, it_scr, li_lst, li_olst, pit_lst, pit_scr, sz_lst, sz_olst, sz_oll, sz_scr, sz_tup, ad_int, ad_ll, ad_oo, ad_lo, ad_ol, mu_int, mu_l, mu_o, gI_int, gI0_int, gI2_int, ii_eqv, co_int, co_bl, co_non, co_row, co_rowO, co_nil, co_nilO, co_ps, co_p, co_p2, co_rows, ev_ll, ev_ol, ev_lo, ev_oo, ev_ln, ev_lno, ev_on, ev_ono, in_ps, in_row, gEq, gNe, gIn, gNotIn, g1, g2, gLen, gList, δof, List.getElem?_cons_zero, List.getElem?_cons_succ, List.getElem?_nil, List.set_cons_zero, List.set_cons_succ, List.map_cons, List.map_nil, List.length_cons, List.length_nil, List.replicate_succ, List.replicate_zero, List.cons_append, List.nil_append, Option.bind_some, Option.bind_none, List.all_cons, List.all_nil, List.append_nil, Nat.reduceAdd, Nat.reduceSub, true_and, and_true, Bool.and_true, Bool.true_and, decide_eq_true neg]
      exact h
theorem rd_led {K : PySem.W.Frag} : ∀ ds Q, G_led K ds Q → T_led K { nx := fun _ => Q .non, rt := Q } (δof N_led.length ds) := by
  rintro _ Q ⟨n, ps, xs, ys, rfl, hx, hy, h⟩
  simp only [T_led, mK, rD, dSeq, dIfS, dT, dTn, dTa, dTo, dOp, dVar, dC, dFz_eq, dCB, dCons, dNil, dCall, dCallB, dMeth, dMethB, dSet, dApp, dExt, dRet, dRetM, dNx, dDrop, dNeg, dAnd, dOr, dNot, dIf, dCh, dCh3, dU, dTup, dLst, dFld, dIsi, dIl, dIe, dIr1, dIr2, dIv1, dgN, dgT, putAll, dFor, dPar2, dPar3, dSetT, dLc, dYes, dSl, dNo, dSome, dRev, dNev, dSset, dCount, dIndex, dLrg1, dLrg2, dTwo, un_non, un_int, un_bl, un_str, un_lst, un_tup, un_obj, un_dct, un_scr, un_olst, un_oll, un_oobj, un_mv, un_m, un_p, pl_non, pl_int, pl_bl, pl_str, pl_lst, pl_tup, pl_obj, pl_dct, pl_scr, pl_m, pl_p, fzm_non, fzm_int, fzm_bl, fzm_lst, fzm_tup, fzm_obj, fzm_scr, fzm_olst, fzm_oll, fzm_oobj, fzm_m, frz_non, frz_int, frz_bl, frz_str, frz_lst, frz_tup, frz_obj, frz_dct, frz_scr, frz_olst, frz_oll, frz_m, fz_no, fz_tr, see_no, see_tr, asB_bl, asI_int, asgD_non, asgD_int, asgD_bl, asgD_lst, asgD_tup, asgD_obj, asgD_mv, asgD_m, it_lst, it_olst, it_scr, li_lst, li_olst, pit_lst, pit_scr, sz_lst, sz_olst, sz_oll, sz_scr, sz_tup, ad_int, ad_ll, ad_oo, ad_lo, ad_ol, mu_int, mu_l, mu_o, gI_int, gI0_int, gI2_int, ii_eqv, co_int, co_bl, co_non, co_row, co_rowO, co_nil, co_nilO, co_ps, co_p, co_p2, co_rows, ev_ll, ev_ol, ev_lo, ev_oo, ev_ln, ev_lno, ev_on, ev_ono, in_ps, in_row, gEq, gNe, gIn, gNotIn, g1, g2, gLen, gList, δof, List.getElem?_cons_zero, List.getElem?_cons_succ, List.getElem?_nil, List.set_cons_zero, List.set_cons_succ, List.map_cons, List.map_nil, List.length_cons, List.length_nil, List.replicate_succ, List.replicate_zero, List.cons_append, List.nil_append, Option.bind_some, Option.bind_none, List.all_cons, List.all_nil, List.append_nil, Nat.reduceAdd, Nat.reduceSub, true_and, and_true, Bool.and_true, Bool.true_and, List.length_map]
  by_cases e : xs.length = ys.length
  · rw [decide_eq_true (by omega)]
    simp only [dSeq, dIfS, dT, dTn, dTa, dTo, dOp, dVar, dC, dFz_eq, dCB, dCons, dNil, dCall, dCallB, dMeth, dMethB, dSet, dApp, dExt, dRet, dRetM, dNx, dDrop, dNeg, dAnd, dOr, dNot, dIf, dCh, dCh3, dU, dTup, dLst, dFld, dIsi, dIl, dIe, dIr1, dIr2, dIv1, dgN, dgT, putAll, dFor, dPar2, dPar3, dSetT, dLc, dYes, dSl, dNo, dSome, dRev, dNev, dSset, dCount, dIndex, dLrg1, dLrg2, dTwo, un_non, un_int, un_bl, un_str, un_lst, un_tup, un_obj, un_dct, un_scr, un_olst, un_oll, un_oobj, un_mv, un_m, un_p, pl_non, pl_int, pl_bl, pl_str, pl_lst, pl_tup, pl_obj, pl_dct, pl_scr, pl_m, pl_p, fzm_non, fzm_int, fzm_bl, fzm_lst, fzm_tup, fzm_obj, fzm_scr, fzm_olst, fzm_oll, fzm_oobj, fzm_m, frz_non, frz_int, frz_bl, frz_str, frz_lst, frz_tup, frz_obj, frz_dct, frz_scr, frz_olst, frz_oll, frz_m, fz_no, fz_tr, see_no, see_tr, asB_bl, asI_int, asgD_non, asgD_int, asgD_bl, asgD_lst, asgD_tup, asgD_obj, asgD_mv, asgD_m, it_lst, it_olst, it_scr, li_lst, li_olst, pit_lst, pit_scr, sz_lst, sz_olst, sz_oll, sz_scr, sz_tup, ad_int, ad_ll, ad_oo, ad_lo, ad_ol, mu_int, mu_l, mu_o, gI_int, gI0_int, gI2_int, ii_eqv, co_int, co_bl, co_non, co_row, co_rowO, co_nil, co_nilO, co_ps, co_p, co_p2, co_rows, ev_ll, ev_ol, ev_lo, ev_oo, ev_ln, ev_lno, ev_on, ev_ono, in_ps, in_row, gEq, gNe, gIn, gNotIn, g1, g2, gLen, gList, δof, List.getElem?_cons_zero, List.getElem?_cons_succ, List.getElem?_nil, List.set_cons_zero, List.set_cons_succ, List.map_cons, List.map_nil, List.length_cons, List.length_nil, List.replicate_succ, List.replicate_zero, List.cons_append, List.nil_append, Option.bind_some, Option.bind_none, List.all_cons, List.all_nil, List.append_nil, Nat.reduceAdd, Nat.reduceSub, true_and, and_true, Bool.and_true, Bool.true_and, Bool.not_true]
    refine ⟨by decide, ?_⟩
    refine led_f (K := K) (n := n) (ps := ps) ys [] xs [] _ _ _ e (by simpa using hy) (by simp) ?_
    unfold ledF at h
    rw [if_pos e] at h
    show (match ldo (mnd ps) 0 xs ys with
      | none => Q .non
      | some r => ∀ e4 e5 e6 e7, _)
    cases q : ldo (mnd ps) 0 xs ys with
    | none =>
      rw [q] at h
      exact h
    | some r =>
      rw [q] at h
      intro e4 e5 e6 e7
      simp only [mK, rD, dSeq, dIfS, dT, dTn, dTa, dTo, dOp, dVar, dC, dFz_eq, dCB, dCons, dNil, dCall, dCallB, dMeth, dMethB, dSet, dApp, dExt, dRet, dRetM, dNx, dDrop, dNeg, dAnd, dOr, dNot, dIf, dCh, dCh3, dU, dTup, dLst, dFld, dIsi, dIl, dIe, dIr1, dIr2, dIv1, dgN, dgT, putAll, dFor, dPar2, dPar3, dSetT, dLc, dYes, dSl, dNo, dSome, dRev, dNev, dSset, dCount, dIndex, dLrg1, dLrg2, dTwo, un_non, un_int, un_bl, un_str, un_lst, un_tup, un_obj, un_dct, un_scr, un_olst, un_oll, un_oobj, un_mv, un_m, un_p, pl_non, pl_int, pl_bl, pl_str, pl_lst, pl_tup, pl_obj, pl_dct, pl_scr, pl_m, pl_p, fzm_non, fzm_int, fzm_bl, fzm_lst, fzm_tup, fzm_obj, fzm_scr, fzm_olst, fzm_oll, fzm_oobj, fzm_m, frz_non, frz_int, frz_bl, frz_str, frz_lst, frz_tup, frz_obj, frz_dct, frz_scr, frz_olst, frz_oll, frz_m, fz_no, fz_tr, see_no, see_tr, asB_bl, asI_int, asgD_non, asgD_int, asgD_bl, asgD_lst, asgD_tup, asgD_obj, asgD_mv, asgD_m, it_lst, it_olst, it_scr, li_lst, li_olst, pit_lst, pit_scr, sz_lst, sz_olst, sz_oll, sz_scr, sz_tup, ad_int, ad_ll, ad_oo, ad_lo, ad_ol, mu_int, mu_l, mu_o, gI_int, gI0_int, gI2_int, ii_eqv, co_int, co_bl, co_non, co_row, co_rowO, co_nil, co_nilO, co_ps, co_p, co_p2, co_rows, ev_ll, ev_ol, ev_lo, ev_oo, ev_ln, ev_lno, ev_on, ev_ono, in_ps, in_row, gEq, gNe, gIn, gNotIn, g1, g2, gLen, gList, δof, List.getElem?_cons_zero, List.getElem?_cons_succ, List.getElem?_nil, List.set_cons_zero, List.set_cons_succ, List.map_cons, List.map_nil, List.length_cons, List.length_nil, List.replicate_succ, List.replicate_zero, List.cons_append, List.nil_append, Option.bind_some, Option.bind_none, List.all_cons, List.all_nil, List.append_nil, Nat.reduceAdd, Nat.reduceSub, true_and, and_true, Bool.and_true, Bool.true_and]
      exact h
  · rw [decide_eq_false (by omega)]
    unfold ledF at h
    rw [if_neg e] at h
    simp only [dSeq, dIfS, dT, dTn, dTa, dTo, dOp, dVar, dC, dFz_eq, dCB, dCons, dNil, dCall, dCallB, dMeth, dMethB, dSet, dApp, dExt, dRet, dRetM, dNx, dDrop, dNeg, dAnd, dOr, dNot, dIf, dCh, dCh3, dU, dTup, dLst, dFld, dIsi, dIl, dIe, dIr1, dIr2, dIv1, dgN, dgT, putAll, dFor, dPar2, dPar3, dSetT, dLc, dYes, dSl, dNo, dSome, dRev, dNev, dSset, dCount, dIndex, dLrg1, dLrg2, dTwo, un_non, un_int, un_bl, un_str, un_lst, un_tup, un_obj, un_dct, un_scr, un_olst, un_oll, un_oobj, un_mv, un_m, un_p, pl_non, pl_int, pl_bl, pl_str, pl_lst, pl_tup, pl_obj, pl_dct, pl_scr, pl_m, pl_p, fzm_non, fzm_int, fzm_bl, fzm_lst, fzm_tup, fzm_obj, fzm_scr, fzm_olst, fzm_oll, fzm_oobj, fzm_m, frz_non, frz_int, frz_bl, frz_str, frz_lst, frz_tup, frz_obj, frz_dct, frz_scr, frz_olst, frz_oll, frz_m, fz_no, fz_tr, see_no, see_tr, asB_bl, asI_int, asgD_non, asgD_int, asgD_bl, asgD_lst, asgD_tup, asgD_obj, asgD_mv, asgD_m, it_lst, it_olst, it_scr, li_lst, li_olst, pit_lst, pit_scr, sz_lst, sz_olst, sz_oll, sz_scr, sz_tup, ad_int, ad_ll, ad_oo, ad_lo, ad_ol, mu_int, mu_l, mu_o, gI_int, gI0_int, gI2_int, ii_eqv, co_int, co_bl, co_non, co_row, co_rowO, co_nil, co_nilO, co_ps, co_p, co_p2, co_rows, ev_ll, ev_ol, ev_lo, ev_oo, ev_ln, ev_lno, ev_on, ev_ono, in_ps, in_row, gEq, gNe, gIn, gNotIn, g1, g2, gLen, gList, δof, List.getElem?_cons_zero, List.getElem?_cons_succ, List.getElem?_nil, List.set_cons_zero, List.set_cons_succ, List.map_cons, List.map_nil, List.length_cons, List.length_nil, List.replicate_succ, List.replicate_zero, List.cons_append, List.nil_append, Option.bind_some, Option.bind_none, List.all_cons, List.all_nil, List.append_nil, Nat.reduceAdd, Nat.reduceSub, true_and, and_true, Bool.and_true, Bool.true_and, Bool.not_false]
    exact h
/-! ### couples, unlike -/
theorem srt {xs ys : List Int} (up : ys.Pairwise (· < ·)) (mem : ∀ k, k ∈ ys ↔ k ∈ xs) : ys = uni xs := up_eq up up_uni fun k => by rw [mem, mem_uni]
def G_couples (K : PySem.W.Frag) : GD := fun ds P => ∃ n ps xs ys, ds = [mK K n ps, rD xs, rD ys] ∧ xs.length ≤ 130 ∧ ys.length ≤ 130 ∧ P (.mv (.olst ((cpl (mnd ps) (uni (xs ++ ys))).map pD)))
/-! ### couples -/
abbrev N_couples : List Str := ["minds", "one", "other", "kinds", "found", "kind", "more"]
def T_couples_c1 (K : PySem.W.Frag) : DE := (dTup (dCons (dVar 5) (dCons (dVar 5) dNil)))
def T_couples_c2 (K : PySem.W.Frag) : DE := (dTup (dCons (dVar 5) (dCons (dVar 6) dNil)))
def T_couples_c2t (K : PySem.W.Frag) : DT := (dTa (dT (dOp gLt (dVar 5) (dVar 6))) (dT (dMeth (He.ga K "Minds") "minding" (G_Minds_minding K) (dVar 0) (dCons (dVar 5) (dCons (dVar 6) dNil)))))
def T_couples_f3 (K : PySem.W.Frag) : DS := (dExt 4 (dLc 6 (dIl (dVar 3)) (T_couples_c2t K) (T_couples_c2 K)))
def T_couples (K : PySem.W.Frag) : DS := (dSeq (dSet 3 (dFz (dSset (dOp gAdd (dVar 1) (dVar 2)))))
  (dSeq (dSet 4 (dLc 5 (dIl (dVar 3)) dYes (T_couples_c1 K)))
  (dSeq (dFor (dIl (dVar 3)) (dgN 5) (T_couples_f3 K))
  (dRetM 4))))
theorem couples_f {K : PySem.W.Frag} {n : Int} {ps : List (Int × Int)} {ks : List Int} {one other : D} {E : EndsD} (hk : ks.length ≤ 300) : ∀ (js : List Int) (acc : List (Int × Int)) (e5 e6 : DV), acc.length + js.length * 300 ≤ 100000 →
    (∀ e5 e6, E.nx [.tr (mK K n ps), .tr one, .tr other, .tr (rD ks), .tr (.olst ((acc ++ js.flatMap fun k => (ks.filter fun j => decide (k < j) && mnd ps k j).map fun j => (k, j)).map pD)), e5, e6]) →
    forGo (dgN 5) (T_couples_f3 K) E (js.map .int) [.tr (mK K n ps), .tr one, .tr other, .tr (rD ks), .tr (.olst (acc.map pD)), e5, e6]
  | [], acc, e5, e6, _, h => by
    have z := h e5 e6
    rw [List.flatMap_nil, List.append_nil] at z
    exact z
  | k :: js, acc, e5, e6, hl, h => by
    rw [List.length_cons] at hl
    refine forGo_op fun N hN => ?_
    simp only [T_couples_f3, mK, rD, dSeq, dIfS, dT, dTn, dTa, dTo, dOp, dVar, dC, dFz_eq, dCB, dCons, dNil, dCall, dCallB, dMeth, dMethB, dSet, dApp, dExt, dRet, dRetM, dNx, dDrop, dNeg, dAnd, dOr, dNot, dIf, dCh, dCh3, dU, dTup, dLst, dFld, dIsi, dIl, dIe, dIr1, dIr2, dIv1, dgN, dgT, putAll, dFor, dPar2, dPar3, dSetT, dLc, dYes, dSl, dNo, dSome, dRev, dNev, dSset, dCount, dIndex, dLrg1, dLrg2, dTwo, un_non, un_int, un_bl, un_str, un_lst, un_tup, un_obj, un_dct, un_scr, un_olst, un_oll, un_oobj, un_mv, un_m, un_p, pl_non, pl_int, pl_bl, pl_str, pl_lst, pl_tup, pl_obj, pl_dct, pl_scr, pl_m, pl_p, fzm_non, fzm_int, fzm_bl, fzm_lst, fzm_tup, fzm_obj, fzm_scr, fzm_olst, fzm_oll, fzm_oobj, fzm_m, frz_non, frz_int, frz_bl, frz_str, frz_lst, frz_tup, frz_obj, frz_dct, frz_scr, frz_olst, frz_oll, frz_m, fz_no, fz_tr, see_no, see_tr, asB_bl, asI_int, asgD_non, asgD_int, asgD_bl, asgD_lst, asgD_tup, asgD_obj, asgD_mv, asgD_m, it_lst, it_olst, it_scr, li_lst, li_olst, pit_lst, pit_scr, sz_lst, sz_olst, sz_oll, sz_scr, sz_tup, ad_int, ad_ll, ad_oo, ad_lo, ad_ol, mu_int, mu_l, mu_o, gI_int, gI0_int, gI2_int, ii_eqv, co_int, co_bl, co_non, co_row, co_rowO, co_nil, co_nilO, co_ps, co_p, co_p2, co_rows, ev_ll, ev_ol, ev_lo, ev_oo, ev_ln, ev_lno, ev_on, ev_ono, in_ps, in_row, gEq, gNe, gIn, gNotIn, g1, g2, gLen, gList, δof, List.getElem?_cons_zero, List.getElem?_cons_succ, List.getElem?_nil, List.set_cons_zero, List.set_cons_succ, List.map_cons, List.map_nil, List.length_cons, List.length_nil, List.replicate_succ, List.replicate_zero, List.cons_append, List.nil_append, Option.bind_some, Option.bind_none, List.all_cons, List.all_nil, List.append_nil, Nat.reduceAdd, Nat.reduceSub, true_and, and_true, Bool.and_true, Bool.true_and]
    refine cg (p := fun j => decide (k < j) && mnd ps k j) (f := fun j => pD (k, j)) ks (fun j _ R hR => ?_) (fun j _ R hR => ?_) (fun _ => rfl) [] (by rw [List.length_nil]; omega) ?_
    · simp only [T_couples_c2t, dSeq, dIfS, dT, dTn, dTa, dTo, dOp, dVar, dC, dFz_eq, dCB, dCons, dNil, dCall, dCallB, dMeth, dMethB, dSet, dApp, dExt, dRet, dRetM, dNx, dDrop, dNeg, dAnd, dOr, dNot, dIf, dCh, dCh3, dU, dTup, dLst, dFld, dIsi, dIl, dIe, dIr1, dIr2, dIv1, dgN, dgT, putAll, dFor, dPar2, dPar3, dSetT, dLc, dYes, dSl, dNo, dSome, dRev, dNev, dSset, dCount, dIndex, dLrg1, dLrg2, dTwo, un_non, un_int, un_bl, un_str, un_lst, un_tup, un_obj, un_dct, un_scr, un_olst, un_oll, un_oobj, un_mv, un_m, un_p, pl_non, pl_int, pl_bl, pl_str, pl_lst, pl_tup, pl_obj, pl_dct, pl_scr, pl_m, pl_p, fzm_non, fzm_int, fzm_bl, fzm_lst, fzm_tup, fzm_obj, fzm_scr, fzm_olst, fzm_oll, fzm_oobj, fzm_m, frz_non, frz_int, frz_bl, frz_str, frz_lst, frz_tup, frz_obj, frz_dct, frz_scr, frz_olst, frz_oll, frz_m, fz_no, fz_tr, see_no, see_tr, asB_bl, asI_int, asgD_non, asgD_int, asgD_bl, asgD_lst, asgD_tup, asgD_obj, asgD_mv, asgD_m, it_lst, it_olst, it_scr, li_lst, li_olst, pit_lst, pit_scr, sz_lst, sz_olst, sz_oll, sz_scr, sz_tup, ad_int, ad_ll, ad_oo, ad_lo, ad_ol, mu_int, mu_l, mu_o, gI_int, gI0_int, gI2_int, ii_eqv, co_int, co_bl, co_non, co_row, co_rowO, co_nil, co_nilO, co_ps, co_p, co_p2, co_rows, ev_ll, ev_ol, ev_lo, ev_oo, ev_ln, ev_lno, ev_on, ev_ono, in_ps, in_row, gEq, gNe, gIn, gNotIn, g1, g2, gLen, gList, δof, List.getElem?_cons_zero, List.getElem?_cons_succ, List.getElem?_nil, List.set_cons_zero, List.set_cons_succ, List.map_cons, List.map_nil, List.length_cons, List.length_nil, List.replicate_succ, List.replicate_zero, List.cons_append, List.nil_append, Option.bind_some, Option.bind_none, List.all_cons, List.all_nil, List.append_nil, Nat.reduceAdd, Nat.reduceSub, true_and, and_true, Bool.and_true, Bool.true_and]
      by_cases c : k < j
      · rw [decide_eq_true c] at hR ⊢
        rw [Bool.true_and] at hR
        simp only [dSeq, dIfS, dT, dTn, dTa, dTo, dOp, dVar, dC, dFz_eq, dCB, dCons, dNil, dCall, dCallB, dMeth, dMethB, dSet, dApp, dExt, dRet, dRetM, dNx, dDrop, dNeg, dAnd, dOr, dNot, dIf, dCh, dCh3, dU, dTup, dLst, dFld, dIsi, dIl, dIe, dIr1, dIr2, dIv1, dgN, dgT, putAll, dFor, dPar2, dPar3, dSetT, dLc, dYes, dSl, dNo, dSome, dRev, dNev, dSset, dCount, dIndex, dLrg1, dLrg2, dTwo, un_non, un_int, un_bl, un_str, un_lst, un_tup, un_obj, un_dct, un_scr, un_olst, un_oll, un_oobj, un_mv, un_m, un_p, pl_non, pl_int, pl_bl, pl_str, pl_lst, pl_tup, pl_obj, pl_dct, pl_scr, pl_m, pl_p, fzm_non, fzm_int, fzm_bl, fzm_lst, fzm_tup, fzm_obj, fzm_scr, fzm_olst, fzm_oll, fzm_oobj, fzm_m, frz_non, frz_int, frz_bl, frz_str, frz_lst, frz_tup, frz_obj, frz_dct, frz_scr, frz_olst, frz_oll, frz_m, fz_no, fz_tr, see_no, see_tr, asB_bl, asI_int, asgD_non, asgD_int, asgD_bl, asgD_lst, asgD_tup, asgD_obj, asgD_mv, asgD_m, it_lst, it_olst, it_scr, li_lst, li_olst, pit_lst, pit_scr, sz_lst, sz_olst, sz_oll, sz_scr, sz_tup, ad_int, ad_ll, ad_oo, ad_lo, ad_ol, mu_int, mu_l, mu_o, gI_int, gI0_int, gI2_int, ii_eqv, co_int, co_bl, co_non, co_row, co_rowO, co_nil, co_nilO, co_ps, co_p, co_p2, co_rows, ev_ll, ev_ol, ev_lo, ev_oo, ev_ln, ev_lno, ev_on, ev_ono, in_ps, in_row, gEq, gNe, gIn, gNotIn, g1, g2, gLen, gList, δof, List.getElem?_cons_zero, List.getElem?_cons_succ, List.getElem?_nil, List.set_cons_zero, List.set_cons_succ, List.map_cons, List.map_nil, List.length_cons, List.length_nil, List.replicate_succ, List.replicate_zero, List.cons_append, List.nil_append, Option.bind_some, Option.bind_none, List.all_cons, List.all_nil, List.append_nil, Nat.reduceAdd, Nat.reduceSub, true_and, and_true, Bool.and_true, Bool.true_and]
        exact ⟨isA_minding, n, ps, k, j, rfl, hR⟩
      · rw [decide_eq_false c] at hR ⊢
        rw [Bool.false_and] at hR
        exact hR
    · simp only [T_couples_c2, dSeq, dIfS, dT, dTn, dTa, dTo, dOp, dVar, dC, dFz_eq, dCB, dCons, dNil, dCall, dCallB, dMeth, dMethB, dSet, dApp, dExt, dRet, dRetM, dNx, dDrop, dNeg, dAnd, dOr, dNot, dIf, dCh, dCh3, dU, dTup, dLst, dFld, dIsi, dIl, dIe, dIr1, dIr2, dIv1, dgN, dgT, putAll, dFor, dPar2, dPar3, dSetT, dLc, dYes, dSl, dNo, dSome, dRev, dNev, dSset, dCount, dIndex, dLrg1, dLrg2, dTwo, un_non, un_int, un_bl, un_str, un_lst, un_tup, un_obj, un_dct, un_scr, un_olst, un_oll, un_oobj, un_mv, un_m, un_p, pl_non, pl_int, pl_bl, pl_str, pl_lst, pl_tup, pl_obj, pl_dct, pl_scr, pl_m, pl_p, fzm_non, fzm_int, fzm_bl, fzm_lst, fzm_tup, fzm_obj, fzm_scr, fzm_olst, fzm_oll, fzm_oobj, fzm_m, frz_non, frz_int, frz_bl, frz_str, frz_lst, frz_tup, frz_obj, frz_dct, frz_scr, frz_olst, frz_oll, frz_m, fz_no, fz_tr, see_no, see_tr, asB_bl, asI_int, asgD_non, asgD_int, asgD_bl, asgD_lst, asgD_tup, asgD_obj, asgD_mv, asgD_m, it_lst, it_olst, it_scr, li_lst, li_olst, pit_lst, pit_scr, sz_lst, sz_olst, sz_oll, sz_scr, sz_tup, ad_int, ad_ll, ad_oo, ad_lo, ad_ol, mu_int, mu_l, mu_o, gI_int, gI0_int, gI2_int, ii_eqv, co_int, co_bl, co_non, co_row, co_rowO, co_nil, co_nilO, co_ps, co_p, co_p2, co_rows, ev_ll, ev_ol, ev_lo, ev_oo, ev_ln, ev_lno, ev_on, ev_ono, in_ps, in_row, gEq, gNe, gIn, gNotIn, g1, g2, gLen, gList, δof, List.getElem?_cons_zero, List.getElem?_cons_succ, List.getElem?_nil, List.set_cons_zero, List.set_cons_succ, List.map_cons, List.map_nil, List.length_cons, List.length_nil, List.replicate_succ, List.replicate_zero, List.cons_append, List.nil_append, Option.bind_some, Option.bind_none, List.all_cons, List.all_nil, List.append_nil, Nat.reduceAdd, Nat.reduceSub, true_and, and_true, Bool.and_true, Bool.true_and]
      exact ⟨by decide, hR⟩
    · rw [List.nil_append]
      simp only [dSeq, dIfS, dT, dTn, dTa, dTo, dOp, dVar, dC, dFz_eq, dCB, dCons, dNil, dCall, dCallB, dMeth, dMethB, dSet, dApp, dExt, dRet, dRetM, dNx, dDrop, dNeg, dAnd, dOr, dNot, dIf, dCh, dCh3, dU, dTup, dLst, dFld, dIsi, dIl, dIe, dIr1, dIr2, dIv1, dgN, dgT, putAll, dFor, dPar2, dPar3, dSetT, dLc, dYes, dSl, dNo, dSome, dRev, dNev, dSset, dCount, dIndex, dLrg1, dLrg2, dTwo, un_non, un_int, un_bl, un_str, un_lst, un_tup, un_obj, un_dct, un_scr, un_olst, un_oll, un_oobj, un_mv, un_m, un_p, pl_non, pl_int, pl_bl, pl_str, pl_lst, pl_tup, pl_obj, pl_dct, pl_scr, pl_m, pl_p, fzm_non, fzm_int, fzm_bl, fzm_lst, fzm_tup, fzm_obj, fzm_scr, fzm_olst, fzm_oll, fzm_oobj, fzm_m, frz_non, frz_int, frz_bl, frz_str, frz_lst, frz_tup, frz_obj, frz_dct, frz_scr, frz_olst, frz_oll, frz_m, fz_no, fz_tr, see_no, see_tr, asB_bl, asI_int, asgD_non, asgD_int, asgD_bl, asgD_lst, asgD_tup, asgD_obj, asgD_mv, asgD_m, it_lst, it_olst, it_scr, li_lst, li_olst, pit_lst, pit_scr, sz_lst, sz_olst, sz_oll, sz_scr, sz_tup, ad_int, ad_ll, ad_oo, ad_lo, ad_ol, mu_int, mu_l, mu_o, gI_int, gI0_int, gI2_int, ii_eqv, co_int, co_bl, co_non, co_row, co_rowO, co_nil, co_nilO, co_ps, co_p, co_p2, co_rows, ev_ll, ev_ol, ev_lo, ev_oo, ev_ln, ev_lno, ev_on, ev_ono, in_ps, in_row, gEq, gNe, gIn, gNotIn, g1, g2, gLen, gList, δof, List.getElem?_cons_zero, List.getElem?_cons_succ, List.getElem?_nil, List.set_cons_zero, List.set_cons_succ, List.map_cons, List.map_nil, List.length_cons, List.length_nil, List.replicate_succ, List.replicate_zero, List.cons_append, List.nil_append, Option.bind_some, Option.bind_none, List.all_cons, List.all_nil, List.append_nil, Nat.reduceAdd, Nat.reduceSub, true_and, and_true, Bool.and_true, Bool.true_and]
      have fl := List.length_filter_le (fun j => decide (k < j) && mnd ps k j) ks
      refine ⟨by rw [List.length_map, List.length_map]; omega, ?_⟩
      rw [hN]
      have z := couples_f (K := K) (n := n) (ps := ps) (one := one) (other := other) (E := E) hk js (acc ++ (ks.filter fun j => decide (k < j) && mnd ps k j).map fun j => (k, j)) (.tr (.int k)) e6
        (by rw [List.length_append, List.length_map]; omega) fun e5 e6 => by
          have q := h e5 e6
          rw [List.flatMap_cons, ← List.append_assoc] at q
          exact q
      rw [List.map_append, List.map_map] at z
      exact z
theorem rd_couples {K : PySem.W.Frag} : ∀ ds Q, G_couples K ds Q → T_couples K { nx := fun _ => Q .non, rt := Q } (δof N_couples.length ds) := by
  rintro _ Q ⟨n, ps, xs, ys, rfl, hx, hy, h⟩
  simp only [T_couples, mK, rD, dSeq, dIfS, dT, dTn, dTa, dTo, dOp, dVar, dC, dFz_eq, dCB, dCons, dNil, dCall, dCallB, dMeth, dMethB, dSet, dApp, dExt, dRet, dRetM, dNx, dDrop, dNeg, dAnd, dOr, dNot, dIf, dCh, dCh3, dU, dTup, dLst, dFld, dIsi, dIl, dIe, dIr1, dIr2, dIv1, dgN, dgT, putAll, dFor, dPar2, dPar3, dSetT, dLc, dYes, dSl, dNo, dSome, dRev, dNev, dSset, dCount, dIndex, dLrg1, dLrg2, dTwo, un_non, un_int, un_bl, un_str, un_lst, un_tup, un_obj, un_dct, un_scr, un_olst, un_oll, un_oobj, un_mv, un_m, un_p, pl_non, pl_int, pl_bl, pl_str, pl_lst, pl_tup, pl_obj, pl_dct, pl_scr, pl_m, pl_p, fzm_non, fzm_int, fzm_bl, fzm_lst, fzm_tup, fzm_obj, fzm_scr, fzm_olst, fzm_oll, fzm_oobj, fzm_m, frz_non, frz_int, frz_bl, frz_str, frz_lst, frz_tup, frz_obj, frz_dct, frz_scr, frz_olst, frz_oll, frz_m, fz_no, fz_tr, see_no, see_tr, asB_bl, asI_int, asgD_non, asgD_int, asgD_bl, asgD_lst, asgD_tup, asgD_obj, asgD_mv, asgD_m, it_lst, it_olst, it_scr, li_lst, li_olst, pit_lst, pit_scr, sz_lst, sz_olst, sz_oll, sz_scr, sz_tup, ad_int, ad_ll, ad_oo, ad_lo, ad_ol, mu_int, mu_l, mu_o, gI_int, gI0_int, gI2_int, ii_eqv, co_int, co_bl, co_non, co_row, co_rowO, co_nil, co_nilO, co_ps, co_p, co_p2, co_rows, ev_ll, ev_ol, ev_lo, ev_oo, ev_ln, ev_lno, ev_on, ev_ono, in_ps, in_row, gEq, gNe, gIn, gNotIn, g1, g2, gLen, gList, δof, List.getElem?_cons_zero, List.getElem?_cons_succ, List.getElem?_nil, List.set_cons_zero, List.set_cons_succ, List.map_cons, List.map_nil, List.length_cons, List.length_nil, List.replicate_succ, List.replicate_zero, List.cons_append, List.nil_append, Option.bind_some, Option.bind_none, List.all_cons, List.all_nil, List.append_nil, Nat.reduceAdd, Nat.reduceSub, true_and, and_true, Bool.and_true, Bool.true_and]
  refine ⟨by rw [List.length_map, List.length_map]; omega, ?_⟩
  rw [← List.map_append]
  simp only [ints_olst]
  refine ⟨by rw [List.length_append]; omega, fun zs up mem => ?_⟩
  rw [srt up mem]
  have lk := uni_len (xs ++ ys)
  rw [List.length_append] at lk
  generalize hks : uni (xs ++ ys) = ks at *
  refine cg0 (f := fun k => pD (k, k)) ks (fun k _ R hR => ?_) (fun _ => rfl) [] (by rw [List.length_nil]; omega) ?_
  · simp only [T_couples_c1, dSeq, dIfS, dT, dTn, dTa, dTo, dOp, dVar, dC, dFz_eq, dCB, dCons, dNil, dCall, dCallB, dMeth, dMethB, dSet, dApp, dExt, dRet, dRetM, dNx, dDrop, dNeg, dAnd, dOr, dNot, dIf, dCh, dCh3, dU, dTup, dLst, dFld, dIsi, dIl, dIe, dIr1, dIr2, dIv1, dgN, dgT, putAll, dFor, dPar2, dPar3, dSetT, dLc, dYes, dSl, dNo, dSome, dRev, dNev, dSset, dCount, dIndex, dLrg1, dLrg2, dTwo, un_non, un_int, un_bl, un_str, un_lst, un_tup, un_obj, un_dct, un_scr, un_olst, un_oll, un_oobj, un_mv, un_m, un_p, pl_non, pl_int, pl_bl, pl_str, pl_lst, pl_tup, pl_obj, pl_dct, pl_scr, pl_m, pl_p, fzm_non, fzm_int, fzm_bl, fzm_lst, fzm_tup, fzm_obj, fzm_scr, fzm_olst, fzm_oll, fzm_oobj, fzm_m, frz_non, frz_int, frz_bl, frz_str, frz_lst, frz_tup, frz_obj, frz_dct, frz_scr, frz_olst, frz_oll, frz_m, fz_no, fz_tr, see_no, see_tr, asB_bl, asI_int, asgD_non, asgD_int, asgD_bl, asgD_lst, asgD_tup, asgD_obj, asgD_mv, asgD_m, it_lst, it_olst, it_scr, li_lst, li_olst, pit_lst, pit_scr, sz_lst, sz_olst, sz_oll, sz_scr, sz_tup, ad_int, ad_ll, ad_oo, ad_lo, ad_ol, mu_int, mu_l, mu_o, gI_int, gI0_int, gI2_int, ii_eqv, co_int, co_bl, co_non, co_row, co_rowO, co_nil, co_nilO, co_ps, co_p, co_p2, co_rows, ev_ll, ev_ol, ev_lo, ev_oo, ev_ln, ev_lno, ev_on, ev_ono, in_ps, in_row, gEq, gNe, gIn, gNotIn, g1, g2, gLen, gList, δof, List.getElem?_cons_zero, List.getElem?_cons_succ, List.getElem?_nil, List.set_cons_zero, List.set_cons_succ, List.map_cons, List.map_nil, List.length_cons, List.length_nil, List.replicate_succ, List.replicate_zero, List.cons_append, List.nil_append, Option.bind_some, Option.bind_none, List.all_cons, List.all_nil, List.append_nil, Nat.reduceAdd, Nat.reduceSub, true_and, and_true, Bool.and_true, Bool.true_and]
    exact ⟨by decide, hR⟩
  · rw [List.nil_append]
    simp only [dSeq, dIfS, dT, dTn, dTa, dTo, dOp, dVar, dC, dFz_eq, dCB, dCons, dNil, dCall, dCallB, dMeth, dMethB, dSet, dApp, dExt, dRet, dRetM, dNx, dDrop, dNeg, dAnd, dOr, dNot, dIf, dCh, dCh3, dU, dTup, dLst, dFld, dIsi, dIl, dIe, dIr1, dIr2, dIv1, dgN, dgT, putAll, dFor, dPar2, dPar3, dSetT, dLc, dYes, dSl, dNo, dSome, dRev, dNev, dSset, dCount, dIndex, dLrg1, dLrg2, dTwo, un_non, un_int, un_bl, un_str, un_lst, un_tup, un_obj, un_dct, un_scr, un_olst, un_oll, un_oobj, un_mv, un_m, un_p, pl_non, pl_int, pl_bl, pl_str, pl_lst, pl_tup, pl_obj, pl_dct, pl_scr, pl_m, pl_p, fzm_non, fzm_int, fzm_bl, fzm_lst, fzm_tup, fzm_obj, fzm_scr, fzm_olst, fzm_oll, fzm_oobj, fzm_m, frz_non, frz_int, frz_bl, frz_str, frz_lst, frz_tup, frz_obj, frz_dct, frz_scr, frz_olst, frz_oll, frz_m, fz_no, fz_tr, see_no, see_tr, asB_bl, asI_int, asgD_non, asgD_int, asgD_bl, asgD_lst, asgD_tup, asgD_obj, asgD_mv, asgD_m, it_lst, it_olst, it_scr, li_lst, li_olst, pit_lst, pit_scr, sz_lst, sz_olst, sz_oll, sz_scr, sz_tup, ad_int, ad_ll, ad_oo, ad_lo, ad_ol, mu_int, mu_l, mu_o, gI_int, gI0_int, gI2_int, ii_eqv, co_int, co_bl, co_non, co_row, co_rowO, co_nil, co_nilO, co_ps, co_p, co_p2, co_rows, ev_ll, ev_ol, ev_lo, ev_oo, ev_ln, ev_lno, ev_on, ev_ono, in_ps, in_row, gEq, gNe, gIn, gNotIn, g1, g2, gLen, gList, δof, List.getElem?_cons_zero, List.getElem?_cons_succ, List.getElem?_nil, List.set_cons_zero, List.set_cons_succ, List.map_cons, List.map_nil, List.length_cons, List.length_nil, List.replicate_succ, List.replicate_zero, List.cons_append, List.nil_append, Option.bind_some, Option.bind_none, List.all_cons, List.all_nil, List.append_nil, Nat.reduceAdd, Nat.reduceSub, true_and, and_true, Bool.and_true, Bool.true_and]
    have e : ks.map (fun k => pD (k, k)) = (ks.map fun k => (k, k)).map pD := by rw [List.map_map]; rfl
    rw [e]
    refine couples_f (K := K) (n := n) (ps := ps) (ks := ks) (by omega) ks _ _ _ (by rw [List.length_map]; omega) fun e5 e6 => ?_
    simp only [mK, rD, dSeq, dIfS, dT, dTn, dTa, dTo, dOp, dVar, dC, dFz_eq, dCB, dCons, dNil, dCall, dCallB, dMeth, dMethB, dSet, dApp, dExt, dRet, dRetM, dNx, dDrop, dNeg, dAnd, dOr, dNot, dIf, dCh, dCh3, dU, dTup, dLst, dFld, dIsi, dIl, dIe, dIr1, dIr2, dIv1, dgN, dgT, putAll, dFor, dPar2, dPar3, dSetT, dLc, dYes, dSl, dNo, dSome, dRev, dNev, dSset, dCount, dIndex, dLrg1, dLrg2, dTwo, un_non, un_int, un_bl, un_str, un_lst, un_tup, un_obj, un_dct, un_scr, un_olst, un_oll, un_oobj, un_mv, un_m, un_p, pl_non, pl_int, pl_bl, pl_str, pl_lst, pl_tup, pl_obj, pl_dct, pl_scr, pl_m, pl_p, fzm_non, fzm_int, fzm_bl, fzm_lst, fzm_tup, fzm_obj, fzm_scr, fzm_olst, fzm_oll, fzm_oobj, fzm_m, frz_non, frz_int, frz_bl, frz_str, frz_lst, frz_tup, frz_obj, frz_dct, frz_scr, frz_olst, frz_oll, frz_m, fz_no, fz_tr, see_no, see_tr, asB_bl, asI_int, asgD_non, asgD_int, asgD_bl, asgD_lst, asgD_tup, asgD_obj, asgD_mv, asgD_m, it_lst, it_olst, it_scr, li_lst, li_olst, pit_lst, pit_scr, sz_lst, sz_olst, sz_oll, sz_scr, sz_tup, ad_int, ad_ll, ad_oo, ad_lo, ad_ol, mu_int, mu_l, mu_o, gI_int, gI0_int, gI2_int, ii_eqv, co_int, co_bl, co_non, co_row, co_rowO, co_nil, co_nilO, co_ps, co_p, co_p2, co_rows, ev_ll, ev_ol, ev_lo, ev_oo, ev_ln, ev_lno, ev_on, ev_ono, in_ps, in_row, gEq, gNe, gIn, gNotIn, g1, g2, gLen, gList, δof, List.getElem?_cons_zero, List.getElem?_cons_succ, List.getElem?_nil, List.set_cons_zero, List.set_cons_succ, List.map_cons, List.map_nil, List.length_cons, List.length_nil, List.replicate_succ, List.replicate_zero, List.cons_append, List.nil_append, Option.bind_some, Option.bind_none, List.all_cons, List.all_nil, List.append_nil, Nat.reduceAdd, Nat.reduceSub, true_and, and_true, Bool.and_true, Bool.true_and]
    exact h
def unF (m : Int → Int → Bool) (xs ys : List Int) : Option (Int × Int) := (cpl m (uni (xs ++ ys))).find? fun c => decide (prt c.1 c.2 xs ≠ prt c.1 c.2 ys)
def G_unlike (K : PySem.W.Frag) : GD := fun ds P => ∃ n ps xs ys, ds = [mK K n ps, rD xs, rD ys] ∧ xs.length ≤ 130 ∧ ys.length ≤ 130 ∧ (match unF (mnd ps) xs ys with
  | some c => P (pD c)
  | none => P .non)
/-! ### unlike -/
abbrev N_unlike : List Str := ["minds", "one", "other", "first", "second"]
def T_unlike_f1 (K : PySem.W.Frag) : DS := (dIfS (dT (dOp gNe (dCall (G_part_of K) (dCons (dVar 1) (dCons (dVar 3) (dCons (dVar 4) dNil)))) (dCall (G_part_of K) (dCons (dVar 2) (dCons (dVar 3) (dCons (dVar 4) dNil)))))) (dRet (dTup (dCons (dVar 3) (dCons (dVar 4) dNil)))) dNx)
def T_unlike (K : PySem.W.Frag) : DS := (dSeq (dFor (dIl (dFz (dCall (G_couples K) (dCons (dVar 0) (dCons (dVar 1) (dCons (dVar 2) dNil)))))) (dgT [3, 4]) (T_unlike_f1 K))
  (dRet (dC .non)))
theorem unlike_f {K : PySem.W.Frag} {d0 : D} {xs ys : List Int} {E : EndsD} (hx : xs.length ≤ 1000) (hy : ys.length ≤ 1000) : ∀ (cs : List (Int × Int)) (e3 e4 : DV),
    (match cs.find? fun c => decide (prt c.1 c.2 xs ≠ prt c.1 c.2 ys) with
      | some c => E.rt (pD c)
      | none => ∀ e3 e4, E.nx [.tr d0, .tr (rD xs), .tr (rD ys), e3, e4]) →
    forGo (dgT [3, 4]) (T_unlike_f1 K) E (cs.map pD) [.tr d0, .tr (rD xs), .tr (rD ys), e3, e4]
  | [], e3, e4, h => h e3 e4
  | c :: cs, e3, e4, h => by
    refine forGo_op fun N hN => ?_
    simp only [T_unlike_f1, rD, pD, dSeq, dIfS, dT, dTn, dTa, dTo, dOp, dVar, dC, dFz_eq, dCB, dCons, dNil, dCall, dCallB, dMeth, dMethB, dSet, dApp, dExt, dRet, dRetM, dNx, dDrop, dNeg, dAnd, dOr, dNot, dIf, dCh, dCh3, dU, dTup, dLst, dFld, dIsi, dIl, dIe, dIr1, dIr2, dIv1, dgN, dgT, putAll, dFor, dPar2, dPar3, dSetT, dLc, dYes, dSl, dNo, dSome, dRev, dNev, dSset, dCount, dIndex, dLrg1, dLrg2, dTwo, un_non, un_int, un_bl, un_str, un_lst, un_tup, un_obj, un_dct, un_scr, un_olst, un_oll, un_oobj, un_mv, un_m, un_p, pl_non, pl_int, pl_bl, pl_str, pl_lst, pl_tup, pl_obj, pl_dct, pl_scr, pl_m, pl_p, fzm_non, fzm_int, fzm_bl, fzm_lst, fzm_tup, fzm_obj, fzm_scr, fzm_olst, fzm_oll, fzm_oobj, fzm_m, frz_non, frz_int, frz_bl, frz_str, frz_lst, frz_tup, frz_obj, frz_dct, frz_scr, frz_olst, frz_oll, frz_m, fz_no, fz_tr, see_no, see_tr, asB_bl, asI_int, asgD_non, asgD_int, asgD_bl, asgD_lst, asgD_tup, asgD_obj, asgD_mv, asgD_m, it_lst, it_olst, it_scr, li_lst, li_olst, pit_lst, pit_scr, sz_lst, sz_olst, sz_oll, sz_scr, sz_tup, ad_int, ad_ll, ad_oo, ad_lo, ad_ol, mu_int, mu_l, mu_o, gI_int, gI0_int, gI2_int, ii_eqv, co_int, co_bl, co_non, co_row, co_rowO, co_nil, co_nilO, co_ps, co_p, co_p2, co_rows, ev_ll, ev_ol, ev_lo, ev_oo, ev_ln, ev_lno, ev_on, ev_ono, in_ps, in_row, gEq, gNe, gIn, gNotIn, g1, g2, gLen, gList, δof, List.getElem?_cons_zero, List.getElem?_cons_succ, List.getElem?_nil, List.set_cons_zero, List.set_cons_succ, List.map_cons, List.map_nil, List.length_cons, List.length_nil, List.replicate_succ, List.replicate_zero, List.cons_append, List.nil_append, Option.bind_some, Option.bind_none, List.all_cons, List.all_nil, List.append_nil, Nat.reduceAdd, Nat.reduceSub, true_and, and_true, Bool.and_true, Bool.true_and]
    refine ⟨xs, c.1, c.2, rfl, hx, ?_⟩
    simp only [dSeq, dIfS, dT, dTn, dTa, dTo, dOp, dVar, dC, dFz_eq, dCB, dCons, dNil, dCall, dCallB, dMeth, dMethB, dSet, dApp, dExt, dRet, dRetM, dNx, dDrop, dNeg, dAnd, dOr, dNot, dIf, dCh, dCh3, dU, dTup, dLst, dFld, dIsi, dIl, dIe, dIr1, dIr2, dIv1, dgN, dgT, putAll, dFor, dPar2, dPar3, dSetT, dLc, dYes, dSl, dNo, dSome, dRev, dNev, dSset, dCount, dIndex, dLrg1, dLrg2, dTwo, un_non, un_int, un_bl, un_str, un_lst, un_tup, un_obj, un_dct, un_scr, un_olst, un_oll, un_oobj, un_mv, un_m, un_p, pl_non, pl_int, pl_bl, pl_str, pl_lst, pl_tup, pl_obj, pl_dct, pl_scr, pl_m, pl_p, fzm_non, fzm_int, fzm_bl, fzm_lst, fzm_tup, fzm_obj, fzm_scr, fzm_olst, fzm_oll, fzm_oobj, fzm_m, frz_non, frz_int, frz_bl, frz_str, frz_lst, frz_tup, frz_obj, frz_dct, frz_scr, frz_olst, frz_oll, frz_m, fz_no, fz_tr, see_no, see_tr, asB_bl, asI_int, asgD_non, asgD_int, asgD_bl, asgD_lst, asgD_tup, asgD_obj, asgD_mv, asgD_m, it_lst, it_olst, it_scr, li_lst, li_olst, pit_lst, pit_scr, sz_lst, sz_olst, sz_oll, sz_scr, sz_tup, ad_int, ad_ll, ad_oo, ad_lo, ad_ol, mu_int, mu_l, mu_o, gI_int, gI0_int, gI2_int, ii_eqv, co_int, co_bl, co_non, co_row, co_rowO, co_nil, co_nilO, co_ps, co_p, co_p2, co_rows, ev_ll, ev_ol, ev_lo, ev_oo, ev_ln, ev_lno, ev_on, ev_ono, in_ps, in_row, gEq, gNe, gIn, gNotIn, g1, g2, gLen, gList, δof, List.getElem?_cons_zero, List.getElem?_cons_succ, List.getElem?_nil, List.set_cons_zero, List.set_cons_succ, List.map_cons, List.map_nil, List.length_cons, List.length_nil, List.replicate_succ, List.replicate_zero, List.cons_append, List.nil_append, Option.bind_some, Option.bind_none, List.all_cons, List.all_nil, List.append_nil, Nat.reduceAdd, Nat.reduceSub, true_and, and_true, Bool.and_true, Bool.true_and]
    refine ⟨ys, c.1, c.2, rfl, hy, ?_⟩
    simp only [dSeq, dIfS, dT, dTn, dTa, dTo, dOp, dVar, dC, dFz_eq, dCB, dCons, dNil, dCall, dCallB, dMeth, dMethB, dSet, dApp, dExt, dRet, dRetM, dNx, dDrop, dNeg, dAnd, dOr, dNot, dIf, dCh, dCh3, dU, dTup, dLst, dFld, dIsi, dIl, dIe, dIr1, dIr2, dIv1, dgN, dgT, putAll, dFor, dPar2, dPar3, dSetT, dLc, dYes, dSl, dNo, dSome, dRev, dNev, dSset, dCount, dIndex, dLrg1, dLrg2, dTwo, un_non, un_int, un_bl, un_str, un_lst, un_tup, un_obj, un_dct, un_scr, un_olst, un_oll, un_oobj, un_mv, un_m, un_p, pl_non, pl_int, pl_bl, pl_str, pl_lst, pl_tup, pl_obj, pl_dct, pl_scr, pl_m, pl_p, fzm_non, fzm_int, fzm_bl, fzm_lst, fzm_tup, fzm_obj, fzm_scr, fzm_olst, fzm_oll, fzm_oobj, fzm_m, frz_non, frz_int, frz_bl, frz_str, frz_lst, frz_tup, frz_obj, frz_dct, frz_scr, frz_olst, frz_oll, frz_m, fz_no, fz_tr, see_no, see_tr, asB_bl, asI_int, asgD_non, asgD_int, asgD_bl, asgD_lst, asgD_tup, asgD_obj, asgD_mv, asgD_m, it_lst, it_olst, it_scr, li_lst, li_olst, pit_lst, pit_scr, sz_lst, sz_olst, sz_oll, sz_scr, sz_tup, ad_int, ad_ll, ad_oo, ad_lo, ad_ol, mu_int, mu_l, mu_o, gI_int, gI0_int, gI2_int, ii_eqv, co_int, co_bl, co_non, co_row, co_rowO, co_nil, co_nilO, co_ps, co_p, co_p2, co_rows, ev_ll, ev_ol, ev_lo, ev_oo, ev_ln, ev_lno, ev_on, ev_ono, in_ps, in_row, gEq, gNe, gIn, gNotIn, g1, g2, gLen, gList, δof, List.getElem?_cons_zero, List.getElem?_cons_succ, List.getElem?_nil, List.set_cons_zero, List.set_cons_succ, List.map_cons, List.map_nil, List.length_cons, List.length_nil, List.replicate_succ, List.replicate_zero, List.cons_append, List.nil_append, Option.bind_some, Option.bind_none, List.all_cons, List.all_nil, List.append_nil, Nat.reduceAdd, Nat.reduceSub, true_and, and_true, Bool.and_true, Bool.true_and]
    rw [List.find?_cons] at h
    by_cases e : prt c.1 c.2 xs = prt c.1 c.2 ys
    · rw [decide_eq_false (fun z => z e)] at h
      rw [decide_eq_true e]
      simp only [dSeq, dIfS, dT, dTn, dTa, dTo, dOp, dVar, dC, dFz_eq, dCB, dCons, dNil, dCall, dCallB, dMeth, dMethB, dSet, dApp, dExt, dRet, dRetM, dNx, dDrop, dNeg, dAnd, dOr, dNot, dIf, dCh, dCh3, dU, dTup, dLst, dFld, dIsi, dIl, dIe, dIr1, dIr2, dIv1, dgN, dgT, putAll, dFor, dPar2, dPar3, dSetT, dLc, dYes, dSl, dNo, dSome, dRev, dNev, dSset, dCount, dIndex, dLrg1, dLrg2, dTwo, un_non, un_int, un_bl, un_str, un_lst, un_tup, un_obj, un_dct, un_scr, un_olst, un_oll, un_oobj, un_mv, un_m, un_p, pl_non, pl_int, pl_bl, pl_str, pl_lst, pl_tup, pl_obj, pl_dct, pl_scr, pl_m, pl_p, fzm_non, fzm_int, fzm_bl, fzm_lst, fzm_tup, fzm_obj, fzm_scr, fzm_olst, fzm_oll, fzm_oobj, fzm_m, frz_non, frz_int, frz_bl, frz_str, frz_lst, frz_tup, frz_obj, frz_dct, frz_scr, frz_olst, frz_oll, frz_m, fz_no, fz_tr, see_no, see_tr, asB_bl, asI_int, asgD_non, asgD_int, asgD_bl, asgD_lst, asgD_tup, asgD_obj, asgD_mv, asgD_m, it_lst, it_olst, it_scr, li_lst, li_olst, pit_lst, pit_scr, sz_lst, sz_olst, sz_oll, sz_scr, sz_tup, ad_int, ad_ll, ad_oo, ad_lo, ad_ol, mu_int, mu_l, mu_o, gI_int, gI0_int, gI2_int, ii_eqv, co_int, co_bl, co_non, co_row, co_rowO, co_nil, co_nilO, co_ps, co_p, co_p2, co_rows, ev_ll, ev_ol, ev_lo, ev_oo, ev_ln, ev_lno, ev_on, ev_ono, in_ps, in_row, gEq, gNe, gIn, gNotIn, g1, g2, gLen, gList, δof, List.getElem?_cons_zero, List.getElem?_cons_succ, List.getElem?_nil, List.set_cons_zero, List.set_cons_succ, List.map_cons, List.map_nil, List.length_cons, List.length_nil, List.replicate_succ, List.replicate_zero, List.cons_append, List.nil_append, Option.bind_some, Option.bind_none, List.all_cons, List.all_nil, List.append_nil, Nat.reduceAdd, Nat.reduceSub, true_and, and_true, Bool.and_true, Bool.true_and, Bool.not_true]
      rw [hN]
      exact unlike_f hx hy cs _ _ h
    · rw [decide_eq_true e] at h
      rw [decide_eq_false e]
      simp only [dSeq, dIfS, dT, dTn, dTa, dTo, dOp, dVar, dC, dFz_eq, dCB, dCons, dNil, dCall, dCallB, dMeth, dMethB, dSet, dApp, dExt, dRet, dRetM, dNx, dDrop, dNeg, dAnd, dOr, dNot, dIf, dCh, dCh3, dU, dTup, dLst, dFld, dIsi, dIl, dIe, dIr1, dIr2, dIv1, dgN, dgT, putAll, dFor, dPar2, dPar3, dSetT, dLc, dYes, dSl, dNo, dSome, dRev, dNev, dSset, dCount, dIndex, dLrg1, dLrg2, dTwo, un_non, un_int, un_bl, un_str, un_lst, un_tup, un_obj, un_dct, un_scr, un_olst, un_oll, un_oobj, un_mv, un_m, un_p, pl_non, pl_int, pl_bl, pl_str, pl_lst, pl_tup, pl_obj, pl_dct, pl_scr, pl_m, pl_p, fzm_non, fzm_int, fzm_bl, fzm_lst, fzm_tup, fzm_obj, fzm_scr, fzm_olst, fzm_oll, fzm_oobj, fzm_m, frz_non, frz_int, frz_bl, frz_str, frz_lst, frz_tup, frz_obj, frz_dct, frz_scr, frz_olst, frz_oll, frz_m, fz_no, fz_tr, see_no, see_tr, asB_bl, asI_int, asgD_non, asgD_int, asgD_bl, asgD_lst, asgD_tup, asgD_obj, asgD_mv, asgD_m, it_lst, it_olst, it_scr, li_lst, li_olst, pit_lst, pit_scr, sz_lst, sz_olst, sz_oll, sz_scr, sz_tup, ad_int, ad_ll, ad_oo, ad_lo, ad_ol, mu_int, mu_l, mu_o, gI_int, gI0_int, gI2_int, ii_eqv, co_int, co_bl, co_non, co_row, co_rowO, co_nil, co_nilO, co_ps, co_p, co_p2, co_rows, ev_ll, ev_ol, ev_lo, ev_oo, ev_ln, ev_lno, ev_on, ev_ono, in_ps, in_row, gEq, gNe, gIn, gNotIn, g1, g2, gLen, gList, δof, List.getElem?_cons_zero, List.getElem?_cons_succ, List.getElem?_nil, List.set_cons_zero, List.set_cons_succ, List.map_cons, List.map_nil, List.length_cons, List.length_nil, List.replicate_succ, List.replicate_zero, List.cons_append, List.nil_append, Option.bind_some, Option.bind_none, List.all_cons, List.all_nil, List.append_nil, Nat.reduceAdd, Nat.reduceSub, true_and, and_true, Bool.and_true, Bool.true_and, Bool.not_false]
      exact ⟨by decide, h⟩
theorem rd_unlike {K : PySem.W.Frag} : ∀ ds Q, G_unlike K ds Q → T_unlike K { nx := fun _ => Q .non, rt := Q } (δof N_unlike.length ds) := by
  rintro _ Q ⟨n, ps, xs, ys, rfl, hx, hy, h⟩
  simp only [T_unlike, mK, rD, dSeq, dIfS, dT, dTn, dTa, dTo, dOp, dVar, dC, dFz_eq, dCB, dCons, dNil, dCall, dCallB, dMeth, dMethB, dSet, dApp, dExt, dRet, dRetM, dNx, dDrop, dNeg, dAnd, dOr, dNot, dIf, dCh, dCh3, dU, dTup, dLst, dFld, dIsi, dIl, dIe, dIr1, dIr2, dIv1, dgN, dgT, putAll, dFor, dPar2, dPar3, dSetT, dLc, dYes, dSl, dNo, dSome, dRev, dNev, dSset, dCount, dIndex, dLrg1, dLrg2, dTwo, un_non, un_int, un_bl, un_str, un_lst, un_tup, un_obj, un_dct, un_scr, un_olst, un_oll, un_oobj, un_mv, un_m, un_p, pl_non, pl_int, pl_bl, pl_str, pl_lst, pl_tup, pl_obj, pl_dct, pl_scr, pl_m, pl_p, fzm_non, fzm_int, fzm_bl, fzm_lst, fzm_tup, fzm_obj, fzm_scr, fzm_olst, fzm_oll, fzm_oobj, fzm_m, frz_non, frz_int, frz_bl, frz_str, frz_lst, frz_tup, frz_obj, frz_dct, frz_scr, frz_olst, frz_oll, frz_m, fz_no, fz_tr, see_no, see_tr, asB_bl, asI_int, asgD_non, asgD_int, asgD_bl, asgD_lst, asgD_tup, asgD_obj, asgD_mv, asgD_m, it_lst, it_olst, it_scr, li_lst, li_olst, pit_lst, pit_scr, sz_lst, sz_olst, sz_oll, sz_scr, sz_tup, ad_int, ad_ll, ad_oo, ad_lo, ad_ol, mu_int, mu_l, mu_o, gI_int, gI0_int, gI2_int, ii_eqv, co_int, co_bl, co_non, co_row, co_rowO, co_nil, co_nilO, co_ps, co_p, co_p2, co_rows, ev_ll, ev_ol, ev_lo, ev_oo, ev_ln, ev_lno, ev_on, ev_ono, in_ps, in_row, gEq, gNe, gIn, gNotIn, g1, g2, gLen, gList, δof, List.getElem?_cons_zero, List.getElem?_cons_succ, List.getElem?_nil, List.set_cons_zero, List.set_cons_succ, List.map_cons, List.map_nil, List.length_cons, List.length_nil, List.replicate_succ, List.replicate_zero, List.cons_append, List.nil_append, Option.bind_some, Option.bind_none, List.all_cons, List.all_nil, List.append_nil, Nat.reduceAdd, Nat.reduceSub, true_and, and_true, Bool.and_true, Bool.true_and]
  refine ⟨n, ps, xs, ys, rfl, hx, hy, ?_⟩
  refine unlike_f (K := K) (by omega) (by omega) _ _ _ ?_
  show (match unF (mnd ps) xs ys with
    | some c => _
    | none => _)
  cases e : unF (mnd ps) xs ys with
  | some c =>
    rw [e] at h
    exact h
  | none =>
    rw [e] at h
    intro e3 e4
    exact h
/-! ### are_kinds, same -/
def G_are_kinds (K : PySem.W.Frag) : GD := fun ds P => ∃ n ps xs, ds = [mK K n ps, rD xs] ∧ xs.length ≤ 1000 ∧ P (.bl (xs.all (kB n)))
/-! ### are_kinds -/
abbrev N_are_kinds : List Str := ["minds", "kinds", "kind"]
def T_are_kinds_c1 (K : PySem.W.Frag) : DE := (dFz (dMeth (He.ga K "Minds") "is_kind" (G_Minds_is_kind K) (dVar 0) (dCons (dVar 2) dNil)))
def T_are_kinds (K : PySem.W.Frag) : DS := (dRet (dCB gAll (dCons (dLc 2 (dIl (dVar 1)) dYes (T_are_kinds_c1 K)) dNil)))
theorem rd_are_kinds {K : PySem.W.Frag} : ∀ ds Q, G_are_kinds K ds Q → T_are_kinds K { nx := fun _ => Q .non, rt := Q } (δof N_are_kinds.length ds) := by
  rintro _ Q ⟨n, ps, xs, rfl, hl, h⟩
  simp only [T_are_kinds, mK, rD, dSeq, dIfS, dT, dTn, dTa, dTo, dOp, dVar, dC, dFz_eq, dCB, dCons, dNil, dCall, dCallB, dMeth, dMethB, dSet, dApp, dExt, dRet, dRetM, dNx, dDrop, dNeg, dAnd, dOr, dNot, dIf, dCh, dCh3, dU, dTup, dLst, dFld, dIsi, dIl, dIe, dIr1, dIr2, dIv1, dgN, dgT, putAll, dFor, dPar2, dPar3, dSetT, dLc, dYes, dSl, dNo, dSome, dRev, dNev, dSset, dCount, dIndex, dLrg1, dLrg2, dTwo, un_non, un_int, un_bl, un_str, un_lst, un_tup, un_obj, un_dct, un_scr, un_olst, un_oll, un_oobj, un_mv, un_m, un_p, pl_non, pl_int, pl_bl, pl_str, pl_lst, pl_tup, pl_obj, pl_dct, pl_scr, pl_m, pl_p, fzm_non, fzm_int, fzm_bl, fzm_lst, fzm_tup, fzm_obj, fzm_scr, fzm_olst, fzm_oll, fzm_oobj, fzm_m, frz_non, frz_int, frz_bl, frz_str, frz_lst, frz_tup, frz_obj, frz_dct, frz_scr, frz_olst, frz_oll, frz_m, fz_no, fz_tr, see_no, see_tr, asB_bl, asI_int, asgD_non, asgD_int, asgD_bl, asgD_lst, asgD_tup, asgD_obj, asgD_mv, asgD_m, it_lst, it_olst, it_scr, li_lst, li_olst, pit_lst, pit_scr, sz_lst, sz_olst, sz_oll, sz_scr, sz_tup, ad_int, ad_ll, ad_oo, ad_lo, ad_ol, mu_int, mu_l, mu_o, gI_int, gI0_int, gI2_int, ii_eqv, co_int, co_bl, co_non, co_row, co_rowO, co_nil, co_nilO, co_ps, co_p, co_p2, co_rows, ev_ll, ev_ol, ev_lo, ev_oo, ev_ln, ev_lno, ev_on, ev_ono, in_ps, in_row, gEq, gNe, gIn, gNotIn, g1, g2, gLen, gList, δof, List.getElem?_cons_zero, List.getElem?_cons_succ, List.getElem?_nil, List.set_cons_zero, List.set_cons_succ, List.map_cons, List.map_nil, List.length_cons, List.length_nil, List.replicate_succ, List.replicate_zero, List.cons_append, List.nil_append, Option.bind_some, Option.bind_none, List.all_cons, List.all_nil, List.append_nil, Nat.reduceAdd, Nat.reduceSub, true_and, and_true, Bool.and_true, Bool.true_and]
  refine cg0 (f := fun x => .bl (kB n x)) xs (fun x _ R hR => ?_) (fun _ => rfl) [] (by rw [List.length_nil]; omega) ?_
  · simp only [T_are_kinds_c1, mK, dSeq, dIfS, dT, dTn, dTa, dTo, dOp, dVar, dC, dFz_eq, dCB, dCons, dNil, dCall, dCallB, dMeth, dMethB, dSet, dApp, dExt, dRet, dRetM, dNx, dDrop, dNeg, dAnd, dOr, dNot, dIf, dCh, dCh3, dU, dTup, dLst, dFld, dIsi, dIl, dIe, dIr1, dIr2, dIv1, dgN, dgT, putAll, dFor, dPar2, dPar3, dSetT, dLc, dYes, dSl, dNo, dSome, dRev, dNev, dSset, dCount, dIndex, dLrg1, dLrg2, dTwo, un_non, un_int, un_bl, un_str, un_lst, un_tup, un_obj, un_dct, un_scr, un_olst, un_oll, un_oobj, un_mv, un_m, un_p, pl_non, pl_int, pl_bl, pl_str, pl_lst, pl_tup, pl_obj, pl_dct, pl_scr, pl_m, pl_p, fzm_non, fzm_int, fzm_bl, fzm_lst, fzm_tup, fzm_obj, fzm_scr, fzm_olst, fzm_oll, fzm_oobj, fzm_m, frz_non, frz_int, frz_bl, frz_str, frz_lst, frz_tup, frz_obj, frz_dct, frz_scr, frz_olst, frz_oll, frz_m, fz_no, fz_tr, see_no, see_tr, asB_bl, asI_int, asgD_non, asgD_int, asgD_bl, asgD_lst, asgD_tup, asgD_obj, asgD_mv, asgD_m, it_lst, it_olst, it_scr, li_lst, li_olst, pit_lst, pit_scr, sz_lst, sz_olst, sz_oll, sz_scr, sz_tup, ad_int, ad_ll, ad_oo, ad_lo, ad_ol, mu_int, mu_l, mu_o, gI_int, gI0_int, gI2_int, ii_eqv, co_int, co_bl, co_non, co_row, co_rowO, co_nil, co_nilO, co_ps, co_p, co_p2, co_rows, ev_ll, ev_ol, ev_lo, ev_oo, ev_ln, ev_lno, ev_on, ev_ono, in_ps, in_row, gEq, gNe, gIn, gNotIn, g1, g2, gLen, gList, δof, List.getElem?_cons_zero, List.getElem?_cons_succ, List.getElem?_nil, List.set_cons_zero, List.set_cons_succ, List.map_cons, List.map_nil, List.length_cons, List.length_nil, List.replicate_succ, List.replicate_zero, List.cons_append, List.nil_append, Option.bind_some, Option.bind_none, List.all_cons, List.all_nil, List.append_nil, Nat.reduceAdd, Nat.reduceSub, true_and, and_true, Bool.and_true, Bool.true_and]
    exact ⟨isA_is_kind, n, ps, x, rfl, hR⟩
  · exact ga_map h
def G_same (K : PySem.W.Frag) : GD := fun ds P => ∃ n ps xs ys, ds = [mK K n ps, rD xs, rD ys] ∧ xs.length ≤ 200 ∧ ys.length ≤ 200 ∧ P (.bl ((xs ++ ys).all (kB n) && (ledF (mnd ps) xs ys).isSome))
/-! ### same -/
abbrev N_same : List Str := ["minds", "one", "other"]
def T_same (K : PySem.W.Frag) : DS := (dRet (dAnd (dCall (G_are_kinds K) (dCons (dVar 0) (dCons (dFz (dOp gAdd (dVar 1) (dVar 2))) dNil))) (dU (fun x => .bl (!x.isNon)) (dCall (G_led K) (dCons (dVar 0) (dCons (dVar 1) (dCons (dVar 2) dNil)))))))
theorem rd_same {K : PySem.W.Frag} : ∀ ds Q, G_same K ds Q → T_same K { nx := fun _ => Q .non, rt := Q } (δof N_same.length ds) := by
  rintro _ Q ⟨n, ps, xs, ys, rfl, hx, hy, h⟩
  simp only [T_same, mK, rD, dSeq, dIfS, dT, dTn, dTa, dTo, dOp, dVar, dC, dFz_eq, dCB, dCons, dNil, dCall, dCallB, dMeth, dMethB, dSet, dApp, dExt, dRet, dRetM, dNx, dDrop, dNeg, dAnd, dOr, dNot, dIf, dCh, dCh3, dU, dTup, dLst, dFld, dIsi, dIl, dIe, dIr1, dIr2, dIv1, dgN, dgT, putAll, dFor, dPar2, dPar3, dSetT, dLc, dYes, dSl, dNo, dSome, dRev, dNev, dSset, dCount, dIndex, dLrg1, dLrg2, dTwo, un_non, un_int, un_bl, un_str, un_lst, un_tup, un_obj, un_dct, un_scr, un_olst, un_oll, un_oobj, un_mv, un_m, un_p, pl_non, pl_int, pl_bl, pl_str, pl_lst, pl_tup, pl_obj, pl_dct, pl_scr, pl_m, pl_p, fzm_non, fzm_int, fzm_bl, fzm_lst, fzm_tup, fzm_obj, fzm_scr, fzm_olst, fzm_oll, fzm_oobj, fzm_m, frz_non, frz_int, frz_bl, frz_str, frz_lst, frz_tup, frz_obj, frz_dct, frz_scr, frz_olst, frz_oll, frz_m, fz_no, fz_tr, see_no, see_tr, asB_bl, asI_int, asgD_non, asgD_int, asgD_bl, asgD_lst, asgD_tup, asgD_obj, asgD_mv, asgD_m, it_lst, it_olst, it_scr, li_lst, li_olst, pit_lst, pit_scr, sz_lst, sz_olst, sz_oll, sz_scr, sz_tup, ad_int, ad_ll, ad_oo, ad_lo, ad_ol, mu_int, mu_l, mu_o, gI_int, gI0_int, gI2_int, ii_eqv, co_int, co_bl, co_non, co_row, co_rowO, co_nil, co_nilO, co_ps, co_p, co_p2, co_rows, ev_ll, ev_ol, ev_lo, ev_oo, ev_ln, ev_lno, ev_on, ev_ono, in_ps, in_row, gEq, gNe, gIn, gNotIn, g1, g2, gLen, gList, δof, List.getElem?_cons_zero, List.getElem?_cons_succ, List.getElem?_nil, List.set_cons_zero, List.set_cons_succ, List.map_cons, List.map_nil, List.length_cons, List.length_nil, List.replicate_succ, List.replicate_zero, List.cons_append, List.nil_append, Option.bind_some, Option.bind_none, List.all_cons, List.all_nil, List.append_nil, Nat.reduceAdd, Nat.reduceSub, true_and, and_true, Bool.and_true, Bool.true_and]
  refine ⟨by rw [List.length_map, List.length_map]; omega, ?_⟩
  rw [← List.map_append]
  refine ⟨n, ps, xs ++ ys, rfl, by rw [List.length_append]; omega, ?_⟩
  cases hk : (xs ++ ys).all (kB n) with
  | false =>
    rw [hk] at h
    exact h
  | true =>
    rw [hk] at h
    simp only [dSeq, dIfS, dT, dTn, dTa, dTo, dOp, dVar, dC, dFz_eq, dCB, dCons, dNil, dCall, dCallB, dMeth, dMethB, dSet, dApp, dExt, dRet, dRetM, dNx, dDrop, dNeg, dAnd, dOr, dNot, dIf, dCh, dCh3, dU, dTup, dLst, dFld, dIsi, dIl, dIe, dIr1, dIr2, dIv1, dgN, dgT, putAll, dFor, dPar2, dPar3, dSetT, dLc, dYes, dSl, dNo, dSome, dRev, dNev, dSset, dCount, dIndex, dLrg1, dLrg2, dTwo, un_non, un_int, un_bl, un_str, un_lst, un_tup, un_obj, un_dct, un_scr, un_olst, un_oll, un_oobj, un_mv, un_m, un_p, pl_non, pl_int, pl_bl, pl_str, pl_lst, pl_tup, pl_obj, pl_dct, pl_scr, pl_m, pl_p, fzm_non, fzm_int, fzm_bl, fzm_lst, fzm_tup, fzm_obj, fzm_scr, fzm_olst, fzm_oll, fzm_oobj, fzm_m, frz_non, frz_int, frz_bl, frz_str, frz_lst, frz_tup, frz_obj, frz_dct, frz_scr, frz_olst, frz_oll, frz_m, fz_no, fz_tr, see_no, see_tr, asB_bl, asI_int, asgD_non, asgD_int, asgD_bl, asgD_lst, asgD_tup, asgD_obj, asgD_mv, asgD_m, it_lst, it_olst, it_scr, li_lst, li_olst, pit_lst, pit_scr, sz_lst, sz_olst, sz_oll, sz_scr, sz_tup, ad_int, ad_ll, ad_oo, ad_lo, ad_ol, mu_int, mu_l, mu_o, gI_int, gI0_int, gI2_int, ii_eqv, co_int, co_bl, co_non, co_row, co_rowO, co_nil, co_nilO, co_ps, co_p, co_p2, co_rows, ev_ll, ev_ol, ev_lo, ev_oo, ev_ln, ev_lno, ev_on, ev_ono, in_ps, in_row, gEq, gNe, gIn, gNotIn, g1, g2, gLen, gList, δof, List.getElem?_cons_zero, List.getElem?_cons_succ, List.getElem?_nil, List.set_cons_zero, List.set_cons_succ, List.map_cons, List.map_nil, List.length_cons, List.length_nil, List.replicate_succ, List.replicate_zero, List.cons_append, List.nil_append, Option.bind_some, Option.bind_none, List.all_cons, List.all_nil, List.append_nil, Nat.reduceAdd, Nat.reduceSub, true_and, and_true, Bool.and_true, Bool.true_and]
    refine ⟨n, ps, xs, ys, rfl, hx, hy, ?_⟩
    rw [Bool.true_and] at h
    cases e : ledF (mnd ps) xs ys with
    | none =>
      rw [e] at h
      exact h
    | some pl =>
      rw [e] at h
      exact h
end J
/-! R1: what is refused: the program's defs -/
namespace J.X9
open PySem PySem.Spec PyProof.Rows L2
abbrev m3 (K : PySem.W.Frag) : D := mK K 3 [(0, 1)]
abbrev cBM (K : PySem.W.Frag) : Addr := He.ga K "BadMinds"
abbrev cBR (K : PySem.W.Frag) : Addr := He.ga K "BadRow"
abbrev cBP (K : PySem.W.Frag) : Addr := He.ga K "BadPlaces"
theorem cgD {j : Nat} {Te : DE} {P : D → Prop} {δ : List DV} {f : D → D} (es : List D) (he : ∀ e ∈ es, ∀ R : D → Prop, R (f e) → Te (δ.set j (.tr e)) R) (hf : ∀ e, (f e).plain = true) (hl : es.length ≤ 100000) (h : P (.mv (.olst (es.map f)))) : compGo j dYes Te P es [] δ := by
  have z := cg0 (P := P) (δ := δ) (g := fun e => e) es he hf [] (by rw [List.length_nil]; omega) (by rw [List.nil_append]; exact h)
  rw [List.map_id'] at z
  exact z
/-- a kind, of three -/
def kndB : D → Bool
  | .int i => decide (0 ≤ i ∧ i < 3)
  | _ => false
def rowB : D → Bool
  | .lst ds => ds.all kndB
  | _ => false
def cntB : D → Bool
  | .int i => decide (1 ≤ i)
  | _ => false
def prB (n : Int) : D → Bool
  | .tup [x, y] => (match x, y with
    | .int a, .int b => decide (0 ≤ a ∧ a < b ∧ b < n)
    | _, _ => false)
  | _ => false
def plB : D → Bool
  | .int i => decide (0 ≤ i ∧ i < 2)
  | _ => false
def G_is_number (_K : PySem.W.Frag) : GD := fun ds P => ∃ d, ds = [d] ∧ d.gd = true ∧ P (.bl d.isN)
/-! ### is_number -/
abbrev N_is_number : List Str := ["thing"]
def T_is_number (K : PySem.W.Frag) : DS := (dRet (dAnd (dIsi K (.type "int") (dVar 0)) (dNot (dIsi K (.type "bool") (dVar 0)))))
theorem rd_is_number {K : PySem.W.Frag} : ∀ ds Q, G_is_number K ds Q → T_is_number K { nx := fun _ => Q .non, rt := Q } (δof N_is_number.length ds) := by
  rintro _ Q ⟨d, rfl, g, h⟩
  simp only [T_is_number, dSeq, dIfS, dT, dTn, dTa, dTo, dOp, dVar, dC, dFz_eq, dCB, dCons, dNil, dCall, dCallB, dMeth, dMethB, dSet, dApp, dExt, dRet, dRetM, dNx, dDrop, dNeg, dAnd, dOr, dNot, dIf, dCh, dCh3, dU, dTup, dLst, dFld, dIsi, dIl, dIe, dIr1, dIr2, dIv1, dgN, dgT, putAll, dFor, dPar2, dPar3, dSetT, dLc, dYes, dSl, dNo, dSome, dRev, dNev, dSset, dCount, dIndex, dLrg1, dLrg2, dTwo, un_non, un_int, un_bl, un_str, un_lst, un_tup, un_obj, un_dct, un_scr, un_olst, un_oll, un_oobj, un_mv, un_m, un_p, pl_non, pl_int, pl_bl, pl_str, pl_lst, pl_tup, pl_obj, pl_dct, pl_scr, pl_m, pl_p, fzm_non, fzm_int, fzm_bl, fzm_lst, fzm_tup, fzm_obj, fzm_scr, fzm_olst, fzm_oll, fzm_oobj, fzm_m, frz_non, frz_int, frz_bl, frz_str, frz_lst, frz_tup, frz_obj, frz_dct, frz_scr, frz_olst, frz_oll, frz_m, fz_no, fz_tr, see_no, see_tr, asB_bl, asI_int, asgD_non, asgD_int, asgD_bl, asgD_lst, asgD_tup, asgD_obj, asgD_mv, asgD_m, it_lst, it_olst, it_scr, li_lst, li_olst, pit_lst, pit_scr, sz_lst, sz_olst, sz_oll, sz_scr, sz_tup, ad_int, ad_ll, ad_oo, ad_lo, ad_ol, mu_int, mu_l, mu_o, gI_int, gI0_int, gI2_int, ii_eqv, co_int, co_bl, co_non, co_row, co_rowO, co_nil, co_nilO, co_ps, co_p, co_p2, co_rows, ev_ll, ev_ol, ev_lo, ev_oo, ev_ln, ev_lno, ev_on, ev_ono, in_ps, in_row, gEq, gNe, gIn, gNotIn, g1, g2, gLen, gList, δof, List.getElem?_cons_zero, List.getElem?_cons_succ, List.getElem?_nil, List.set_cons_zero, List.set_cons_succ, List.map_cons, List.map_nil, List.length_cons, List.length_nil, List.replicate_succ, List.replicate_zero, List.cons_append, List.nil_append, Option.bind_some, Option.bind_none, List.all_cons, List.all_nil, List.append_nil, Nat.reduceAdd, Nat.reduceSub, true_and, and_true, Bool.and_true, Bool.true_and, dCallX, dMethX, dCallV, dCallVX, dRaiseC, dDct, gd_un g, gd_frz g]
  refine isi_I g ?_
  cases d <;> first
    | (cases g; done)
    | exact h
    | (simp only [D.isI, dSeq, dIfS, dT, dTn, dTa, dTo, dOp, dVar, dC, dFz_eq, dCB, dCons, dNil, dCall, dCallB, dMeth, dMethB, dSet, dApp, dExt, dRet, dRetM, dNx, dDrop, dNeg, dAnd, dOr, dNot, dIf, dCh, dCh3, dU, dTup, dLst, dFld, dIsi, dIl, dIe, dIr1, dIr2, dIv1, dgN, dgT, putAll, dFor, dPar2, dPar3, dSetT, dLc, dYes, dSl, dNo, dSome, dRev, dNev, dSset, dCount, dIndex, dLrg1, dLrg2, dTwo, un_non, un_int, un_bl, un_str, un_lst, un_tup, un_obj, un_dct, un_scr, un_olst, un_oll, un_oobj, un_mv, un_m, un_p, pl_non, pl_int, pl_bl, pl_str, pl_lst, pl_tup, pl_obj, pl_dct, pl_scr, pl_m, pl_p, fzm_non, fzm_int, fzm_bl, fzm_lst, fzm_tup, fzm_obj, fzm_scr, fzm_olst, fzm_oll, fzm_oobj, fzm_m, frz_non, frz_int, frz_bl, frz_str, frz_lst, frz_tup, frz_obj, frz_dct, frz_scr, frz_olst, frz_oll, frz_m, fz_no, fz_tr, see_no, see_tr, asB_bl, asI_int, asgD_non, asgD_int, asgD_bl, asgD_lst, asgD_tup, asgD_obj, asgD_mv, asgD_m, it_lst, it_olst, it_scr, li_lst, li_olst, pit_lst, pit_scr, sz_lst, sz_olst, sz_oll, sz_scr, sz_tup, ad_int, ad_ll, ad_oo, ad_lo, ad_ol, mu_int, mu_l, mu_o, gI_int, gI0_int, gI2_int, ii_eqv, co_int, co_bl, co_non, co_row, co_rowO, co_nil, co_nilO, co_ps, co_p, co_p2, co_rows, ev_ll, ev_ol, ev_lo, ev_oo, ev_ln, ev_lno, ev_on, ev_ono, in_ps, in_row, gEq, gNe, gIn, gNotIn, g1, g2, gLen, gList, δof, List.getElem?_cons_zero, List.getElem?_cons_succ, List.getElem?_nil, List.set_cons_zero, List.set_cons_succ, List.map_cons, List.map_nil, List.length_cons, List.length_nil, List.replicate_succ, List.replicate_zero, List.cons_append, List.nil_append, Option.bind_some, Option.bind_none, List.all_cons, List.all_nil, List.append_nil, Nat.reduceAdd, Nat.reduceSub, true_and, and_true, Bool.and_true, Bool.true_and, dCallX, dMethX, dCallV, dCallVX, dRaiseC, dDct]; exact ⟨_, rfl, h⟩)
def G_is_pair (_K : PySem.W.Frag) : GD := fun ds P => ∃ d n, ds = [d, .int n] ∧ d.gd = true ∧ P (.bl (prB n d))
/-! ### is_pair -/
abbrev N_is_pair : List Str := ["thing", "kinds"]
def T_is_pair (K : PySem.W.Frag) : DS := (dSeq (dIfS (dTo (dTn (dT (dIsi K (.type "tuple") (dVar 0)))) (dTo (dT (dOp gNe (dCB gLen (dCons (dVar 0) dNil)) (dC (.int 2)))) (dTo (dTn (dT (dCall (G_is_number K) (dCons (dOp gIx (dVar 0) (dC (.int 0))) dNil)))) (dTn (dT (dCall (G_is_number K) (dCons (dOp gIx (dVar 0) (dC (.int 1))) dNil))))))) (dRet (dC (.bl false))) dNx)
  (dRet (dCh3 gLe gLt gLt (dC (.int 0)) (dOp gIx (dVar 0) (dC (.int 0))) (dOp gIx (dVar 0) (dC (.int 1))) (dVar 1))))
theorem rd_is_pair {K : PySem.W.Frag} : ∀ ds Q, G_is_pair K ds Q → T_is_pair K { nx := fun _ => Q .non, rt := Q } (δof N_is_pair.length ds) := by
  rintro _ Q ⟨d, n, rfl, g, h⟩
  simp only [T_is_pair, dSeq, dIfS, dT, dTn, dTa, dTo, dOp, dVar, dC, dFz_eq, dCB, dCons, dNil, dCall, dCallB, dMeth, dMethB, dSet, dApp, dExt, dRet, dRetM, dNx, dDrop, dNeg, dAnd, dOr, dNot, dIf, dCh, dCh3, dU, dTup, dLst, dFld, dIsi, dIl, dIe, dIr1, dIr2, dIv1, dgN, dgT, putAll, dFor, dPar2, dPar3, dSetT, dLc, dYes, dSl, dNo, dSome, dRev, dNev, dSset, dCount, dIndex, dLrg1, dLrg2, dTwo, un_non, un_int, un_bl, un_str, un_lst, un_tup, un_obj, un_dct, un_scr, un_olst, un_oll, un_oobj, un_mv, un_m, un_p, pl_non, pl_int, pl_bl, pl_str, pl_lst, pl_tup, pl_obj, pl_dct, pl_scr, pl_m, pl_p, fzm_non, fzm_int, fzm_bl, fzm_lst, fzm_tup, fzm_obj, fzm_scr, fzm_olst, fzm_oll, fzm_oobj, fzm_m, frz_non, frz_int, frz_bl, frz_str, frz_lst, frz_tup, frz_obj, frz_dct, frz_scr, frz_olst, frz_oll, frz_m, fz_no, fz_tr, see_no, see_tr, asB_bl, asI_int, asgD_non, asgD_int, asgD_bl, asgD_lst, asgD_tup, asgD_obj, asgD_mv, asgD_m, it_lst, it_olst, it_scr, li_lst, li_olst, pit_lst, pit_scr, sz_lst, sz_olst, sz_oll, sz_scr, sz_tup, ad_int, ad_ll, ad_oo, ad_lo, ad_ol, mu_int, mu_l, mu_o, gI_int, gI0_int, gI2_int, ii_eqv, co_int, co_bl, co_non, co_row, co_rowO, co_nil, co_nilO, co_ps, co_p, co_p2, co_rows, ev_ll, ev_ol, ev_lo, ev_oo, ev_ln, ev_lno, ev_on, ev_ono, in_ps, in_row, gEq, gNe, gIn, gNotIn, g1, g2, gLen, gList, δof, List.getElem?_cons_zero, List.getElem?_cons_succ, List.getElem?_nil, List.set_cons_zero, List.set_cons_succ, List.map_cons, List.map_nil, List.length_cons, List.length_nil, List.replicate_succ, List.replicate_zero, List.cons_append, List.nil_append, Option.bind_some, Option.bind_none, List.all_cons, List.all_nil, List.append_nil, Nat.reduceAdd, Nat.reduceSub, true_and, and_true, Bool.and_true, Bool.true_and, dCallX, dMethX, dCallV, dCallVX, dRaiseC, dDct, gd_un g, gd_frz g]
  refine isi_T g ?_
  cases d with
  | tup es =>
    obtain ⟨_, ge⟩ := gd_tup g
    simp only [D.isT, dSeq, dIfS, dT, dTn, dTa, dTo, dOp, dVar, dC, dFz_eq, dCB, dCons, dNil, dCall, dCallB, dMeth, dMethB, dSet, dApp, dExt, dRet, dRetM, dNx, dDrop, dNeg, dAnd, dOr, dNot, dIf, dCh, dCh3, dU, dTup, dLst, dFld, dIsi, dIl, dIe, dIr1, dIr2, dIv1, dgN, dgT, putAll, dFor, dPar2, dPar3, dSetT, dLc, dYes, dSl, dNo, dSome, dRev, dNev, dSset, dCount, dIndex, dLrg1, dLrg2, dTwo, un_non, un_int, un_bl, un_str, un_lst, un_tup, un_obj, un_dct, un_scr, un_olst, un_oll, un_oobj, un_mv, un_m, un_p, pl_non, pl_int, pl_bl, pl_str, pl_lst, pl_tup, pl_obj, pl_dct, pl_scr, pl_m, pl_p, fzm_non, fzm_int, fzm_bl, fzm_lst, fzm_tup, fzm_obj, fzm_scr, fzm_olst, fzm_oll, fzm_oobj, fzm_m, frz_non, frz_int, frz_bl, frz_str, frz_lst, frz_tup, frz_obj, frz_dct, frz_scr, frz_olst, frz_oll, frz_m, fz_no, fz_tr, see_no, see_tr, asB_bl, asI_int, asgD_non, asgD_int, asgD_bl, asgD_lst, asgD_tup, asgD_obj, asgD_mv, asgD_m, it_lst, it_olst, it_scr, li_lst, li_olst, pit_lst, pit_scr, sz_lst, sz_olst, sz_oll, sz_scr, sz_tup, ad_int, ad_ll, ad_oo, ad_lo, ad_ol, mu_int, mu_l, mu_o, gI_int, gI0_int, gI2_int, ii_eqv, co_int, co_bl, co_non, co_row, co_rowO, co_nil, co_nilO, co_ps, co_p, co_p2, co_rows, ev_ll, ev_ol, ev_lo, ev_oo, ev_ln, ev_lno, ev_on, ev_ono, in_ps, in_row, gEq, gNe, gIn, gNotIn, g1, g2, gLen, gList, δof, List.getElem?_cons_zero, List.getElem?_cons_succ, List.getElem?_nil, List.set_cons_zero, List.set_cons_succ, List.map_cons, List.map_nil, List.length_cons, List.length_nil, List.replicate_succ, List.replicate_zero, List.cons_append, List.nil_append, Option.bind_some, Option.bind_none, List.all_cons, List.all_nil, List.append_nil, Nat.reduceAdd, Nat.reduceSub, true_and, and_true, Bool.and_true, Bool.true_and, dCallX, dMethX, dCallV, dCallVX, dRaiseC, dDct, Bool.not_true]
    match es, ge, h with
    | [], _, h => exact h
    | [x], _, h => exact h
    | [x, y], ge, h =>
      have gx := ge x List.mem_cons_self
      have gy := ge y (List.mem_cons_of_mem _ List.mem_cons_self)
      simp only [dSeq, dIfS, dT, dTn, dTa, dTo, dOp, dVar, dC, dFz_eq, dCB, dCons, dNil, dCall, dCallB, dMeth, dMethB, dSet, dApp, dExt, dRet, dRetM, dNx, dDrop, dNeg, dAnd, dOr, dNot, dIf, dCh, dCh3, dU, dTup, dLst, dFld, dIsi, dIl, dIe, dIr1, dIr2, dIv1, dgN, dgT, putAll, dFor, dPar2, dPar3, dSetT, dLc, dYes, dSl, dNo, dSome, dRev, dNev, dSset, dCount, dIndex, dLrg1, dLrg2, dTwo, un_non, un_int, un_bl, un_str, un_lst, un_tup, un_obj, un_dct, un_scr, un_olst, un_oll, un_oobj, un_mv, un_m, un_p, pl_non, pl_int, pl_bl, pl_str, pl_lst, pl_tup, pl_obj, pl_dct, pl_scr, pl_m, pl_p, fzm_non, fzm_int, fzm_bl, fzm_lst, fzm_tup, fzm_obj, fzm_scr, fzm_olst, fzm_oll, fzm_oobj, fzm_m, frz_non, frz_int, frz_bl, frz_str, frz_lst, frz_tup, frz_obj, frz_dct, frz_scr, frz_olst, frz_oll, frz_m, fz_no, fz_tr, see_no, see_tr, asB_bl, asI_int, asgD_non, asgD_int, asgD_bl, asgD_lst, asgD_tup, asgD_obj, asgD_mv, asgD_m, it_lst, it_olst, it_scr, li_lst, li_olst, pit_lst, pit_scr, sz_lst, sz_olst, sz_oll, sz_scr, sz_tup, ad_int, ad_ll, ad_oo, ad_lo, ad_ol, mu_int, mu_l, mu_o, gI_int, gI0_int, gI2_int, ii_eqv, co_int, co_bl, co_non, co_row, co_rowO, co_nil, co_nilO, co_ps, co_p, co_p2, co_rows, ev_ll, ev_ol, ev_lo, ev_oo, ev_ln, ev_lno, ev_on, ev_ono, in_ps, in_row, gEq, gNe, gIn, gNotIn, g1, g2, gLen, gList, δof, List.getElem?_cons_zero, List.getElem?_cons_succ, List.getElem?_nil, List.set_cons_zero, List.set_cons_succ, List.map_cons, List.map_nil, List.length_cons, List.length_nil, List.replicate_succ, List.replicate_zero, List.cons_append, List.nil_append, Option.bind_some, Option.bind_none, List.all_cons, List.all_nil, List.append_nil, Nat.reduceAdd, Nat.reduceSub, true_and, and_true, Bool.and_true, Bool.true_and, dCallX, dMethX, dCallV, dCallVX, dRaiseC, dDct]
      refine ix_tup ⟨_, at_zero, ?_⟩
      simp only [gd_un gx]
      refine ⟨gd_pl gx, x, rfl, gx, ?_⟩
      cases x with
      | int a =>
        simp only [D.isN, dSeq, dIfS, dT, dTn, dTa, dTo, dOp, dVar, dC, dFz_eq, dCB, dCons, dNil, dCall, dCallB, dMeth, dMethB, dSet, dApp, dExt, dRet, dRetM, dNx, dDrop, dNeg, dAnd, dOr, dNot, dIf, dCh, dCh3, dU, dTup, dLst, dFld, dIsi, dIl, dIe, dIr1, dIr2, dIv1, dgN, dgT, putAll, dFor, dPar2, dPar3, dSetT, dLc, dYes, dSl, dNo, dSome, dRev, dNev, dSset, dCount, dIndex, dLrg1, dLrg2, dTwo, un_non, un_int, un_bl, un_str, un_lst, un_tup, un_obj, un_dct, un_scr, un_olst, un_oll, un_oobj, un_mv, un_m, un_p, pl_non, pl_int, pl_bl, pl_str, pl_lst, pl_tup, pl_obj, pl_dct, pl_scr, pl_m, pl_p, fzm_non, fzm_int, fzm_bl, fzm_lst, fzm_tup, fzm_obj, fzm_scr, fzm_olst, fzm_oll, fzm_oobj, fzm_m, frz_non, frz_int, frz_bl, frz_str, frz_lst, frz_tup, frz_obj, frz_dct, frz_scr, frz_olst, frz_oll, frz_m, fz_no, fz_tr, see_no, see_tr, asB_bl, asI_int, asgD_non, asgD_int, asgD_bl, asgD_lst, asgD_tup, asgD_obj, asgD_mv, asgD_m, it_lst, it_olst, it_scr, li_lst, li_olst, pit_lst, pit_scr, sz_lst, sz_olst, sz_oll, sz_scr, sz_tup, ad_int, ad_ll, ad_oo, ad_lo, ad_ol, mu_int, mu_l, mu_o, gI_int, gI0_int, gI2_int, ii_eqv, co_int, co_bl, co_non, co_row, co_rowO, co_nil, co_nilO, co_ps, co_p, co_p2, co_rows, ev_ll, ev_ol, ev_lo, ev_oo, ev_ln, ev_lno, ev_on, ev_ono, in_ps, in_row, gEq, gNe, gIn, gNotIn, g1, g2, gLen, gList, δof, List.getElem?_cons_zero, List.getElem?_cons_succ, List.getElem?_nil, List.set_cons_zero, List.set_cons_succ, List.map_cons, List.map_nil, List.length_cons, List.length_nil, List.replicate_succ, List.replicate_zero, List.cons_append, List.nil_append, Option.bind_some, Option.bind_none, List.all_cons, List.all_nil, List.append_nil, Nat.reduceAdd, Nat.reduceSub, true_and, and_true, Bool.and_true, Bool.true_and, dCallX, dMethX, dCallV, dCallVX, dRaiseC, dDct, Bool.not_true]
        refine ix_tup ⟨_, at_nat (i := 1) rfl, ?_⟩
        simp only [gd_un gy]
        refine ⟨gd_pl gy, y, rfl, gy, ?_⟩
        cases y with
        | int b =>
          have h : Q (.bl (decide (0 ≤ a ∧ a < b ∧ b < n))) := h
          simp only [D.isN, dSeq, dIfS, dT, dTn, dTa, dTo, dOp, dVar, dC, dFz_eq, dCB, dCons, dNil, dCall, dCallB, dMeth, dMethB, dSet, dApp, dExt, dRet, dRetM, dNx, dDrop, dNeg, dAnd, dOr, dNot, dIf, dCh, dCh3, dU, dTup, dLst, dFld, dIsi, dIl, dIe, dIr1, dIr2, dIv1, dgN, dgT, putAll, dFor, dPar2, dPar3, dSetT, dLc, dYes, dSl, dNo, dSome, dRev, dNev, dSset, dCount, dIndex, dLrg1, dLrg2, dTwo, un_non, un_int, un_bl, un_str, un_lst, un_tup, un_obj, un_dct, un_scr, un_olst, un_oll, un_oobj, un_mv, un_m, un_p, pl_non, pl_int, pl_bl, pl_str, pl_lst, pl_tup, pl_obj, pl_dct, pl_scr, pl_m, pl_p, fzm_non, fzm_int, fzm_bl, fzm_lst, fzm_tup, fzm_obj, fzm_scr, fzm_olst, fzm_oll, fzm_oobj, fzm_m, frz_non, frz_int, frz_bl, frz_str, frz_lst, frz_tup, frz_obj, frz_dct, frz_scr, frz_olst, frz_oll, frz_m, fz_no, fz_tr, see_no, see_tr, asB_bl, asI_int, asgD_non, asgD_int, asgD_bl, asgD_lst, asgD_tup, asgD_obj, asgD_mv, asgD_m, it_lst, it_olst, it_scr, li_lst, li_olst, pit_lst, pit_scr, sz_lst, sz_olst, sz_oll, sz_scr, sz_tup, ad_int, ad_ll, ad_oo, ad_lo, ad_ol, mu_int, mu_l, mu_o, gI_int, gI0_int, gI2_int, ii_eqv, co_int, co_bl, co_non, co_row, co_rowO, co_nil, co_nilO, co_ps, co_p, co_p2, co_rows, ev_ll, ev_ol, ev_lo, ev_oo, ev_ln, ev_lno, ev_on, ev_ono, in_ps, in_row, gEq, gNe, gIn, gNotIn, g1, g2, gLen, gList, δof, List.getElem?_cons_zero, List.getElem?_cons_succ, List.getElem?_nil, List.set_cons_zero, List.set_cons_succ, List.map_cons, List.map_nil, List.length_cons, List.length_nil, List.replicate_succ, List.replicate_zero, List.cons_append, List.nil_append, Option.bind_some, Option.bind_none, List.all_cons, List.all_nil, List.append_nil, Nat.reduceAdd, Nat.reduceSub, true_and, and_true, Bool.and_true, Bool.true_and, dCallX, dMethX, dCallV, dCallVX, dRaiseC, dDct, Bool.not_true]
          refine ix_tup ⟨_, at_zero, ?_⟩
          simp only [dSeq, dIfS, dT, dTn, dTa, dTo, dOp, dVar, dC, dFz_eq, dCB, dCons, dNil, dCall, dCallB, dMeth, dMethB, dSet, dApp, dExt, dRet, dRetM, dNx, dDrop, dNeg, dAnd, dOr, dNot, dIf, dCh, dCh3, dU, dTup, dLst, dFld, dIsi, dIl, dIe, dIr1, dIr2, dIv1, dgN, dgT, putAll, dFor, dPar2, dPar3, dSetT, dLc, dYes, dSl, dNo, dSome, dRev, dNev, dSset, dCount, dIndex, dLrg1, dLrg2, dTwo, un_non, un_int, un_bl, un_str, un_lst, un_tup, un_obj, un_dct, un_scr, un_olst, un_oll, un_oobj, un_mv, un_m, un_p, pl_non, pl_int, pl_bl, pl_str, pl_lst, pl_tup, pl_obj, pl_dct, pl_scr, pl_m, pl_p, fzm_non, fzm_int, fzm_bl, fzm_lst, fzm_tup, fzm_obj, fzm_scr, fzm_olst, fzm_oll, fzm_oobj, fzm_m, frz_non, frz_int, frz_bl, frz_str, frz_lst, frz_tup, frz_obj, frz_dct, frz_scr, frz_olst, frz_oll, frz_m, fz_no, fz_tr, see_no, see_tr, asB_bl, asI_int, asgD_non, asgD_int, asgD_bl, asgD_lst, asgD_tup, asgD_obj, asgD_mv, asgD_m, it_lst, it_olst, it_scr, li_lst, li_olst, pit_lst, pit_scr, sz_lst, sz_olst, sz_oll, sz_scr, sz_tup, ad_int, ad_ll, ad_oo, ad_lo, ad_ol, mu_int, mu_l, mu_o, gI_int, gI0_int, gI2_int, ii_eqv, co_int, co_bl, co_non, co_row, co_rowO, co_nil, co_nilO, co_ps, co_p, co_p2, co_rows, ev_ll, ev_ol, ev_lo, ev_oo, ev_ln, ev_lno, ev_on, ev_ono, in_ps, in_row, gEq, gNe, gIn, gNotIn, g1, g2, gLen, gList, δof, List.getElem?_cons_zero, List.getElem?_cons_succ, List.getElem?_nil, List.set_cons_zero, List.set_cons_succ, List.map_cons, List.map_nil, List.length_cons, List.length_nil, List.replicate_succ, List.replicate_zero, List.cons_append, List.nil_append, Option.bind_some, Option.bind_none, List.all_cons, List.all_nil, List.append_nil, Nat.reduceAdd, Nat.reduceSub, true_and, and_true, Bool.and_true, Bool.true_and, dCallX, dMethX, dCallV, dCallVX, dRaiseC, dDct]
          by_cases c1 : 0 ≤ a
          · rw [decide_eq_true c1]
            simp only [dSeq, dIfS, dT, dTn, dTa, dTo, dOp, dVar, dC, dFz_eq, dCB, dCons, dNil, dCall, dCallB, dMeth, dMethB, dSet, dApp, dExt, dRet, dRetM, dNx, dDrop, dNeg, dAnd, dOr, dNot, dIf, dCh, dCh3, dU, dTup, dLst, dFld, dIsi, dIl, dIe, dIr1, dIr2, dIv1, dgN, dgT, putAll, dFor, dPar2, dPar3, dSetT, dLc, dYes, dSl, dNo, dSome, dRev, dNev, dSset, dCount, dIndex, dLrg1, dLrg2, dTwo, un_non, un_int, un_bl, un_str, un_lst, un_tup, un_obj, un_dct, un_scr, un_olst, un_oll, un_oobj, un_mv, un_m, un_p, pl_non, pl_int, pl_bl, pl_str, pl_lst, pl_tup, pl_obj, pl_dct, pl_scr, pl_m, pl_p, fzm_non, fzm_int, fzm_bl, fzm_lst, fzm_tup, fzm_obj, fzm_scr, fzm_olst, fzm_oll, fzm_oobj, fzm_m, frz_non, frz_int, frz_bl, frz_str, frz_lst, frz_tup, frz_obj, frz_dct, frz_scr, frz_olst, frz_oll, frz_m, fz_no, fz_tr, see_no, see_tr, asB_bl, asI_int, asgD_non, asgD_int, asgD_bl, asgD_lst, asgD_tup, asgD_obj, asgD_mv, asgD_m, it_lst, it_olst, it_scr, li_lst, li_olst, pit_lst, pit_scr, sz_lst, sz_olst, sz_oll, sz_scr, sz_tup, ad_int, ad_ll, ad_oo, ad_lo, ad_ol, mu_int, mu_l, mu_o, gI_int, gI0_int, gI2_int, ii_eqv, co_int, co_bl, co_non, co_row, co_rowO, co_nil, co_nilO, co_ps, co_p, co_p2, co_rows, ev_ll, ev_ol, ev_lo, ev_oo, ev_ln, ev_lno, ev_on, ev_ono, in_ps, in_row, gEq, gNe, gIn, gNotIn, g1, g2, gLen, gList, δof, List.getElem?_cons_zero, List.getElem?_cons_succ, List.getElem?_nil, List.set_cons_zero, List.set_cons_succ, List.map_cons, List.map_nil, List.length_cons, List.length_nil, List.replicate_succ, List.replicate_zero, List.cons_append, List.nil_append, Option.bind_some, Option.bind_none, List.all_cons, List.all_nil, List.append_nil, Nat.reduceAdd, Nat.reduceSub, true_and, and_true, Bool.and_true, Bool.true_and, dCallX, dMethX, dCallV, dCallVX, dRaiseC, dDct]
            refine ix_tup ⟨_, at_nat (i := 1) rfl, ?_⟩
            simp only [dSeq, dIfS, dT, dTn, dTa, dTo, dOp, dVar, dC, dFz_eq, dCB, dCons, dNil, dCall, dCallB, dMeth, dMethB, dSet, dApp, dExt, dRet, dRetM, dNx, dDrop, dNeg, dAnd, dOr, dNot, dIf, dCh, dCh3, dU, dTup, dLst, dFld, dIsi, dIl, dIe, dIr1, dIr2, dIv1, dgN, dgT, putAll, dFor, dPar2, dPar3, dSetT, dLc, dYes, dSl, dNo, dSome, dRev, dNev, dSset, dCount, dIndex, dLrg1, dLrg2, dTwo, un_non, un_int, un_bl, un_str, un_lst, un_tup, un_obj, un_dct, un_scr, un_olst, un_oll, un_oobj, un_mv, un_m, un_p, pl_non, pl_int, pl_bl, pl_str, pl_lst, pl_tup, pl_obj, pl_dct, pl_scr, pl_m, pl_p, fzm_non, fzm_int, fzm_bl, fzm_lst, fzm_tup, fzm_obj, fzm_scr, fzm_olst, fzm_oll, fzm_oobj, fzm_m, frz_non, frz_int, frz_bl, frz_str, frz_lst, frz_tup, frz_obj, frz_dct, frz_scr, frz_olst, frz_oll, frz_m, fz_no, fz_tr, see_no, see_tr, asB_bl, asI_int, asgD_non, asgD_int, asgD_bl, asgD_lst, asgD_tup, asgD_obj, asgD_mv, asgD_m, it_lst, it_olst, it_scr, li_lst, li_olst, pit_lst, pit_scr, sz_lst, sz_olst, sz_oll, sz_scr, sz_tup, ad_int, ad_ll, ad_oo, ad_lo, ad_ol, mu_int, mu_l, mu_o, gI_int, gI0_int, gI2_int, ii_eqv, co_int, co_bl, co_non, co_row, co_rowO, co_nil, co_nilO, co_ps, co_p, co_p2, co_rows, ev_ll, ev_ol, ev_lo, ev_oo, ev_ln, ev_lno, ev_on, ev_ono, in_ps, in_row, gEq, gNe, gIn, gNotIn, g1, g2, gLen, gList, δof, List.getElem?_cons_zero, List.getElem?_cons_succ, List.getElem?_nil, List.set_cons_zero, List.set_cons_succ, List.map_cons, List.map_nil, List.length_cons, List.length_nil, List.replicate_succ, List.replicate_zero, List.cons_append, List.nil_append, Option.bind_some, Option.bind_none, List.all_cons, List.all_nil, List.append_nil, Nat.reduceAdd, Nat.reduceSub, true_and, and_true, Bool.and_true, Bool.true_and, dCallX, dMethX, dCallV, dCallVX, dRaiseC, dDct]
            by_cases c2 : a < b
            · rw [decide_eq_true c2]
              simp only [dSeq, dIfS, dT, dTn, dTa, dTo, dOp, dVar, dC, dFz_eq, dCB, dCons, dNil, dCall, dCallB, dMeth, dMethB, dSet, dApp, dExt, dRet, dRetM, dNx, dDrop, dNeg, dAnd, dOr, dNot, dIf, dCh, dCh3, dU, dTup, dLst, dFld, dIsi, dIl, dIe, dIr1, dIr2, dIv1, dgN, dgT, putAll, dFor, dPar2, dPar3, dSetT, dLc, dYes, dSl, dNo, dSome, dRev, dNev, dSset, dCount, dIndex, dLrg1, dLrg2, dTwo, un_non, un_int, un_bl, un_str, un_lst, un_tup, un_obj, un_dct, un_scr, un_olst, un_oll, un_oobj, un_mv, un_m, un_p, pl_non, pl_int, pl_bl, pl_str, pl_lst, pl_tup, pl_obj, pl_dct, pl_scr, pl_m, pl_p, fzm_non, fzm_int, fzm_bl, fzm_lst, fzm_tup, fzm_obj, fzm_scr, fzm_olst, fzm_oll, fzm_oobj, fzm_m, frz_non, frz_int, frz_bl, frz_str, frz_lst, frz_tup, frz_obj, frz_dct, frz_scr, frz_olst, frz_oll, frz_m, fz_no, fz_tr, see_no, see_tr, asB_bl, asI_int, asgD_non, asgD_int, asgD_bl, asgD_lst, asgD_tup, asgD_obj, asgD_mv, asgD_m, it_lst, it_olst, it_scr, li_lst, li_olst, pit_lst, pit_scr, sz_lst, sz_olst, sz_oll, sz_scr, sz_tup, ad_int, ad_ll, ad_oo, ad_lo, ad_ol, mu_int, mu_l, mu_o, gI_int, gI0_int, gI2_int, ii_eqv, co_int, co_bl, co_non, co_row, co_rowO, co_nil, co_nilO, co_ps, co_p, co_p2, co_rows, ev_ll, ev_ol, ev_lo, ev_oo, ev_ln, ev_lno, ev_on, ev_ono, in_ps, in_row, gEq, gNe, gIn, gNotIn, g1, g2, gLen, gList, δof, List.getElem?_cons_zero, List.getElem?_cons_succ, List.getElem?_nil, List.set_cons_zero, List.set_cons_succ, List.map_cons, List.map_nil, List.length_cons, List.length_nil, List.replicate_succ, List.replicate_zero, List.cons_append, List.nil_append, Option.bind_some, Option.bind_none, List.all_cons, List.all_nil, List.append_nil, Nat.reduceAdd, Nat.reduceSub, true_and, and_true, Bool.and_true, Bool.true_and, dCallX, dMethX, dCallV, dCallVX, dRaiseC, dDct]
              simpa [c1, c2] using h
            · rw [decide_eq_false c2]
              simpa [c2] using h
          · rw [decide_eq_false c1]
            simpa [c1] using h
        | _ => exact h
      | _ => exact h
    | x :: y :: z :: r, _, h =>
      have e : decide ((((x :: y :: z :: r).length : Nat) : Int) = 2) = false := decide_eq_false (by rw [List.length_cons, List.length_cons, List.length_cons]; omega)
      simp only [dSeq, dIfS, dT, dTn, dTa, dTo, dOp, dVar, dC, dFz_eq, dCB, dCons, dNil, dCall, dCallB, dMeth, dMethB, dSet, dApp, dExt, dRet, dRetM, dNx, dDrop, dNeg, dAnd, dOr, dNot, dIf, dCh, dCh3, dU, dTup, dLst, dFld, dIsi, dIl, dIe, dIr1, dIr2, dIv1, dgN, dgT, putAll, dFor, dPar2, dPar3, dSetT, dLc, dYes, dSl, dNo, dSome, dRev, dNev, dSset, dCount, dIndex, dLrg1, dLrg2, dTwo, un_non, un_int, un_bl, un_str, un_lst, un_tup, un_obj, un_dct, un_scr, un_olst, un_oll, un_oobj, un_mv, un_m, un_p, pl_non, pl_int, pl_bl, pl_str, pl_lst, pl_tup, pl_obj, pl_dct, pl_scr, pl_m, pl_p, fzm_non, fzm_int, fzm_bl, fzm_lst, fzm_tup, fzm_obj, fzm_scr, fzm_olst, fzm_oll, fzm_oobj, fzm_m, frz_non, frz_int, frz_bl, frz_str, frz_lst, frz_tup, frz_obj, frz_dct, frz_scr, frz_olst, frz_oll, frz_m, fz_no, fz_tr, see_no, see_tr, asB_bl, asI_int, asgD_non, asgD_int, asgD_bl, asgD_lst, asgD_tup, asgD_obj, asgD_mv, asgD_m, it_lst, it_olst, it_scr, li_lst, li_olst, pit_lst, pit_scr, sz_lst, sz_olst, sz_oll, sz_scr, sz_tup, ad_int, ad_ll, ad_oo, ad_lo, ad_ol, mu_int, mu_l, mu_o, gI_int, gI0_int, gI2_int, ii_eqv, co_int, co_bl, co_non, co_row, co_rowO, co_nil, co_nilO, co_ps, co_p, co_p2, co_rows, ev_ll, ev_ol, ev_lo, ev_oo, ev_ln, ev_lno, ev_on, ev_ono, in_ps, in_row, gEq, gNe, gIn, gNotIn, g1, g2, gLen, gList, δof, List.getElem?_cons_zero, List.getElem?_cons_succ, List.getElem?_nil, List.set_cons_zero, List.set_cons_succ, List.map_cons, List.map_nil, List.length_cons, List.length_nil, List.replicate_succ, List.replicate_zero, List.cons_append, List.nil_append, Option.bind_some, Option.bind_none, List.all_cons, List.all_nil, List.append_nil, Nat.reduceAdd, Nat.reduceSub, true_and, and_true, Bool.and_true, Bool.true_and, dCallX, dMethX, dCallV, dCallVX, dRaiseC, dDct] at e ⊢
      rw [e]
      exact h
  | _ => first | (cases g; done) | exact h
def G_Minds_is_kind (K : PySem.W.Frag) : GD := fun ds P => ∃ d, ds = [m3 K, d] ∧ d.gd = true ∧ P (.bl (kndB d))
/-! ### Minds.is_kind -/
abbrev N_Minds_is_kind : List Str := ["self", "thing"]
def T_Minds_is_kind (K : PySem.W.Frag) : DS := (dRet (dAnd (dCall (G_is_number K) (dCons (dVar 1) dNil)) (dCh gLe gLt (dC (.int 0)) (dVar 1) (dFld K "kinds" (dVar 0)))))
theorem rd_Minds_is_kind {K : PySem.W.Frag} (M : MindsOk K) : ∀ ds Q, G_Minds_is_kind K ds Q → T_Minds_is_kind K { nx := fun _ => Q .non, rt := Q } (δof N_Minds_is_kind.length ds) := by
  rintro _ Q ⟨d, rfl, g, h⟩
  simp only [T_Minds_is_kind, m3, mK, dSeq, dIfS, dT, dTn, dTa, dTo, dOp, dVar, dC, dFz_eq, dCB, dCons, dNil, dCall, dCallB, dMeth, dMethB, dSet, dApp, dExt, dRet, dRetM, dNx, dDrop, dNeg, dAnd, dOr, dNot, dIf, dCh, dCh3, dU, dTup, dLst, dFld, dIsi, dIl, dIe, dIr1, dIr2, dIv1, dgN, dgT, putAll, dFor, dPar2, dPar3, dSetT, dLc, dYes, dSl, dNo, dSome, dRev, dNev, dSset, dCount, dIndex, dLrg1, dLrg2, dTwo, un_non, un_int, un_bl, un_str, un_lst, un_tup, un_obj, un_dct, un_scr, un_olst, un_oll, un_oobj, un_mv, un_m, un_p, pl_non, pl_int, pl_bl, pl_str, pl_lst, pl_tup, pl_obj, pl_dct, pl_scr, pl_m, pl_p, fzm_non, fzm_int, fzm_bl, fzm_lst, fzm_tup, fzm_obj, fzm_scr, fzm_olst, fzm_oll, fzm_oobj, fzm_m, frz_non, frz_int, frz_bl, frz_str, frz_lst, frz_tup, frz_obj, frz_dct, frz_scr, frz_olst, frz_oll, frz_m, fz_no, fz_tr, see_no, see_tr, asB_bl, asI_int, asgD_non, asgD_int, asgD_bl, asgD_lst, asgD_tup, asgD_obj, asgD_mv, asgD_m, it_lst, it_olst, it_scr, li_lst, li_olst, pit_lst, pit_scr, sz_lst, sz_olst, sz_oll, sz_scr, sz_tup, ad_int, ad_ll, ad_oo, ad_lo, ad_ol, mu_int, mu_l, mu_o, gI_int, gI0_int, gI2_int, ii_eqv, co_int, co_bl, co_non, co_row, co_rowO, co_nil, co_nilO, co_ps, co_p, co_p2, co_rows, ev_ll, ev_ol, ev_lo, ev_oo, ev_ln, ev_lno, ev_on, ev_ono, in_ps, in_row, gEq, gNe, gIn, gNotIn, g1, g2, gLen, gList, δof, List.getElem?_cons_zero, List.getElem?_cons_succ, List.getElem?_nil, List.set_cons_zero, List.set_cons_succ, List.map_cons, List.map_nil, List.length_cons, List.length_nil, List.replicate_succ, List.replicate_zero, List.cons_append, List.nil_append, Option.bind_some, Option.bind_none, List.all_cons, List.all_nil, List.append_nil, Nat.reduceAdd, Nat.reduceSub, true_and, and_true, Bool.and_true, Bool.true_and, dCallX, dMethX, dCallV, dCallVX, dRaiseC, dDct, gd_un g, gd_pl g, gd_frz g]
  refine ⟨d, rfl, g, ?_⟩
  cases d with
  | int i =>
    have h : Q (.bl (decide (0 ≤ i ∧ i < 3))) := h
    simp only [D.isN, dSeq, dIfS, dT, dTn, dTa, dTo, dOp, dVar, dC, dFz_eq, dCB, dCons, dNil, dCall, dCallB, dMeth, dMethB, dSet, dApp, dExt, dRet, dRetM, dNx, dDrop, dNeg, dAnd, dOr, dNot, dIf, dCh, dCh3, dU, dTup, dLst, dFld, dIsi, dIl, dIe, dIr1, dIr2, dIv1, dgN, dgT, putAll, dFor, dPar2, dPar3, dSetT, dLc, dYes, dSl, dNo, dSome, dRev, dNev, dSset, dCount, dIndex, dLrg1, dLrg2, dTwo, un_non, un_int, un_bl, un_str, un_lst, un_tup, un_obj, un_dct, un_scr, un_olst, un_oll, un_oobj, un_mv, un_m, un_p, pl_non, pl_int, pl_bl, pl_str, pl_lst, pl_tup, pl_obj, pl_dct, pl_scr, pl_m, pl_p, fzm_non, fzm_int, fzm_bl, fzm_lst, fzm_tup, fzm_obj, fzm_scr, fzm_olst, fzm_oll, fzm_oobj, fzm_m, frz_non, frz_int, frz_bl, frz_str, frz_lst, frz_tup, frz_obj, frz_dct, frz_scr, frz_olst, frz_oll, frz_m, fz_no, fz_tr, see_no, see_tr, asB_bl, asI_int, asgD_non, asgD_int, asgD_bl, asgD_lst, asgD_tup, asgD_obj, asgD_mv, asgD_m, it_lst, it_olst, it_scr, li_lst, li_olst, pit_lst, pit_scr, sz_lst, sz_olst, sz_oll, sz_scr, sz_tup, ad_int, ad_ll, ad_oo, ad_lo, ad_ol, mu_int, mu_l, mu_o, gI_int, gI0_int, gI2_int, ii_eqv, co_int, co_bl, co_non, co_row, co_rowO, co_nil, co_nilO, co_ps, co_p, co_p2, co_rows, ev_ll, ev_ol, ev_lo, ev_oo, ev_ln, ev_lno, ev_on, ev_ono, in_ps, in_row, gEq, gNe, gIn, gNotIn, g1, g2, gLen, gList, δof, List.getElem?_cons_zero, List.getElem?_cons_succ, List.getElem?_nil, List.set_cons_zero, List.set_cons_succ, List.map_cons, List.map_nil, List.length_cons, List.length_nil, List.replicate_succ, List.replicate_zero, List.cons_append, List.nil_append, Option.bind_some, Option.bind_none, List.all_cons, List.all_nil, List.append_nil, Nat.reduceAdd, Nat.reduceSub, true_and, and_true, Bool.and_true, Bool.true_and, dCallX, dMethX, dCallV, dCallVX, dRaiseC, dDct]
    by_cases c : 0 ≤ i
    · rw [decide_eq_true c]
      simp only [dSeq, dIfS, dT, dTn, dTa, dTo, dOp, dVar, dC, dFz_eq, dCB, dCons, dNil, dCall, dCallB, dMeth, dMethB, dSet, dApp, dExt, dRet, dRetM, dNx, dDrop, dNeg, dAnd, dOr, dNot, dIf, dCh, dCh3, dU, dTup, dLst, dFld, dIsi, dIl, dIe, dIr1, dIr2, dIv1, dgN, dgT, putAll, dFor, dPar2, dPar3, dSetT, dLc, dYes, dSl, dNo, dSome, dRev, dNev, dSset, dCount, dIndex, dLrg1, dLrg2, dTwo, un_non, un_int, un_bl, un_str, un_lst, un_tup, un_obj, un_dct, un_scr, un_olst, un_oll, un_oobj, un_mv, un_m, un_p, pl_non, pl_int, pl_bl, pl_str, pl_lst, pl_tup, pl_obj, pl_dct, pl_scr, pl_m, pl_p, fzm_non, fzm_int, fzm_bl, fzm_lst, fzm_tup, fzm_obj, fzm_scr, fzm_olst, fzm_oll, fzm_oobj, fzm_m, frz_non, frz_int, frz_bl, frz_str, frz_lst, frz_tup, frz_obj, frz_dct, frz_scr, frz_olst, frz_oll, frz_m, fz_no, fz_tr, see_no, see_tr, asB_bl, asI_int, asgD_non, asgD_int, asgD_bl, asgD_lst, asgD_tup, asgD_obj, asgD_mv, asgD_m, it_lst, it_olst, it_scr, li_lst, li_olst, pit_lst, pit_scr, sz_lst, sz_olst, sz_oll, sz_scr, sz_tup, ad_int, ad_ll, ad_oo, ad_lo, ad_ol, mu_int, mu_l, mu_o, gI_int, gI0_int, gI2_int, ii_eqv, co_int, co_bl, co_non, co_row, co_rowO, co_nil, co_nilO, co_ps, co_p, co_p2, co_rows, ev_ll, ev_ol, ev_lo, ev_oo, ev_ln, ev_lno, ev_on, ev_ono, in_ps, in_row, gEq, gNe, gIn, gNotIn, g1, g2, gLen, gList, δof, List.getElem?_cons_zero, List.getElem?_cons_succ, List.getElem?_nil, List.set_cons_zero, List.set_cons_succ, List.map_cons, List.map_nil, List.length_cons, List.length_nil, List.replicate_succ, List.replicate_zero, List.cons_append, List.nil_append, Option.bind_some, Option.bind_none, List.all_cons, List.all_nil, List.append_nil, Nat.reduceAdd, Nat.reduceSub, true_and, and_true, Bool.and_true, Bool.true_and, dCallX, dMethX, dCallV, dCallVX, dRaiseC, dDct]
      refine fld_kinds M ?_
      simp only [dSeq, dIfS, dT, dTn, dTa, dTo, dOp, dVar, dC, dFz_eq, dCB, dCons, dNil, dCall, dCallB, dMeth, dMethB, dSet, dApp, dExt, dRet, dRetM, dNx, dDrop, dNeg, dAnd, dOr, dNot, dIf, dCh, dCh3, dU, dTup, dLst, dFld, dIsi, dIl, dIe, dIr1, dIr2, dIv1, dgN, dgT, putAll, dFor, dPar2, dPar3, dSetT, dLc, dYes, dSl, dNo, dSome, dRev, dNev, dSset, dCount, dIndex, dLrg1, dLrg2, dTwo, un_non, un_int, un_bl, un_str, un_lst, un_tup, un_obj, un_dct, un_scr, un_olst, un_oll, un_oobj, un_mv, un_m, un_p, pl_non, pl_int, pl_bl, pl_str, pl_lst, pl_tup, pl_obj, pl_dct, pl_scr, pl_m, pl_p, fzm_non, fzm_int, fzm_bl, fzm_lst, fzm_tup, fzm_obj, fzm_scr, fzm_olst, fzm_oll, fzm_oobj, fzm_m, frz_non, frz_int, frz_bl, frz_str, frz_lst, frz_tup, frz_obj, frz_dct, frz_scr, frz_olst, frz_oll, frz_m, fz_no, fz_tr, see_no, see_tr, asB_bl, asI_int, asgD_non, asgD_int, asgD_bl, asgD_lst, asgD_tup, asgD_obj, asgD_mv, asgD_m, it_lst, it_olst, it_scr, li_lst, li_olst, pit_lst, pit_scr, sz_lst, sz_olst, sz_oll, sz_scr, sz_tup, ad_int, ad_ll, ad_oo, ad_lo, ad_ol, mu_int, mu_l, mu_o, gI_int, gI0_int, gI2_int, ii_eqv, co_int, co_bl, co_non, co_row, co_rowO, co_nil, co_nilO, co_ps, co_p, co_p2, co_rows, ev_ll, ev_ol, ev_lo, ev_oo, ev_ln, ev_lno, ev_on, ev_ono, in_ps, in_row, gEq, gNe, gIn, gNotIn, g1, g2, gLen, gList, δof, List.getElem?_cons_zero, List.getElem?_cons_succ, List.getElem?_nil, List.set_cons_zero, List.set_cons_succ, List.map_cons, List.map_nil, List.length_cons, List.length_nil, List.replicate_succ, List.replicate_zero, List.cons_append, List.nil_append, Option.bind_some, Option.bind_none, List.all_cons, List.all_nil, List.append_nil, Nat.reduceAdd, Nat.reduceSub, true_and, and_true, Bool.and_true, Bool.true_and, dCallX, dMethX, dCallV, dCallVX, dRaiseC, dDct]
      simpa [c] using h
    · rw [decide_eq_false c]
      simpa [c] using h
  | _ => exact h
def G_check_row (K : PySem.W.Frag) : GX := fun ds P R => ∃ d, ds = [m3 K, d] ∧ d.gd = true ∧ (match rowB d with
  | true => P .non
  | false => R (cBR K))
/-! ### check_row -/
abbrev N_check_row : List Str := ["minds", "row", "kind"]
def T_check_row_c1 (K : PySem.W.Frag) : DE := (dFz (dMeth (He.ga K "Minds") "is_kind" (G_Minds_is_kind K) (dVar 0) (dCons (dVar 2) dNil)))
def T_check_row (R : Addr → Prop) (K : PySem.W.Frag) : DS := (dIfS (dTo (dTn (dT (dIsi K (.type "list") (dVar 1)))) (dTn (dT (dCB gAll (dCons (dLc 2 (dIl (dVar 1)) dYes (T_check_row_c1 K)) dNil))))) (dRaiseC (_root_.He.ga K "BadRow") R) dNx)
theorem rd_check_row {K : PySem.W.Frag} : ∀ ds Q R, G_check_row K ds Q R → T_check_row R K { nx := fun _ => Q .non, rt := Q } (δof N_check_row.length ds) := by
  rintro _ Q R ⟨d, rfl, g, h⟩
  simp only [T_check_row, m3, mK, dSeq, dIfS, dT, dTn, dTa, dTo, dOp, dVar, dC, dFz_eq, dCB, dCons, dNil, dCall, dCallB, dMeth, dMethB, dSet, dApp, dExt, dRet, dRetM, dNx, dDrop, dNeg, dAnd, dOr, dNot, dIf, dCh, dCh3, dU, dTup, dLst, dFld, dIsi, dIl, dIe, dIr1, dIr2, dIv1, dgN, dgT, putAll, dFor, dPar2, dPar3, dSetT, dLc, dYes, dSl, dNo, dSome, dRev, dNev, dSset, dCount, dIndex, dLrg1, dLrg2, dTwo, un_non, un_int, un_bl, un_str, un_lst, un_tup, un_obj, un_dct, un_scr, un_olst, un_oll, un_oobj, un_mv, un_m, un_p, pl_non, pl_int, pl_bl, pl_str, pl_lst, pl_tup, pl_obj, pl_dct, pl_scr, pl_m, pl_p, fzm_non, fzm_int, fzm_bl, fzm_lst, fzm_tup, fzm_obj, fzm_scr, fzm_olst, fzm_oll, fzm_oobj, fzm_m, frz_non, frz_int, frz_bl, frz_str, frz_lst, frz_tup, frz_obj, frz_dct, frz_scr, frz_olst, frz_oll, frz_m, fz_no, fz_tr, see_no, see_tr, asB_bl, asI_int, asgD_non, asgD_int, asgD_bl, asgD_lst, asgD_tup, asgD_obj, asgD_mv, asgD_m, it_lst, it_olst, it_scr, li_lst, li_olst, pit_lst, pit_scr, sz_lst, sz_olst, sz_oll, sz_scr, sz_tup, ad_int, ad_ll, ad_oo, ad_lo, ad_ol, mu_int, mu_l, mu_o, gI_int, gI0_int, gI2_int, ii_eqv, co_int, co_bl, co_non, co_row, co_rowO, co_nil, co_nilO, co_ps, co_p, co_p2, co_rows, ev_ll, ev_ol, ev_lo, ev_oo, ev_ln, ev_lno, ev_on, ev_ono, in_ps, in_row, gEq, gNe, gIn, gNotIn, g1, g2, gLen, gList, δof, List.getElem?_cons_zero, List.getElem?_cons_succ, List.getElem?_nil, List.set_cons_zero, List.set_cons_succ, List.map_cons, List.map_nil, List.length_cons, List.length_nil, List.replicate_succ, List.replicate_zero, List.cons_append, List.nil_append, Option.bind_some, Option.bind_none, List.all_cons, List.all_nil, List.append_nil, Nat.reduceAdd, Nat.reduceSub, true_and, and_true, Bool.and_true, Bool.true_and, dCallX, dMethX, dCallV, dCallVX, dRaiseC, dDct, gd_un g, gd_pl g]
  refine isi_L g ?_
  cases d with
  | lst es =>
    obtain ⟨l, ge⟩ := gd_lst g
    simp only [D.isL, dSeq, dIfS, dT, dTn, dTa, dTo, dOp, dVar, dC, dFz_eq, dCB, dCons, dNil, dCall, dCallB, dMeth, dMethB, dSet, dApp, dExt, dRet, dRetM, dNx, dDrop, dNeg, dAnd, dOr, dNot, dIf, dCh, dCh3, dU, dTup, dLst, dFld, dIsi, dIl, dIe, dIr1, dIr2, dIv1, dgN, dgT, putAll, dFor, dPar2, dPar3, dSetT, dLc, dYes, dSl, dNo, dSome, dRev, dNev, dSset, dCount, dIndex, dLrg1, dLrg2, dTwo, un_non, un_int, un_bl, un_str, un_lst, un_tup, un_obj, un_dct, un_scr, un_olst, un_oll, un_oobj, un_mv, un_m, un_p, pl_non, pl_int, pl_bl, pl_str, pl_lst, pl_tup, pl_obj, pl_dct, pl_scr, pl_m, pl_p, fzm_non, fzm_int, fzm_bl, fzm_lst, fzm_tup, fzm_obj, fzm_scr, fzm_olst, fzm_oll, fzm_oobj, fzm_m, frz_non, frz_int, frz_bl, frz_str, frz_lst, frz_tup, frz_obj, frz_dct, frz_scr, frz_olst, frz_oll, frz_m, fz_no, fz_tr, see_no, see_tr, asB_bl, asI_int, asgD_non, asgD_int, asgD_bl, asgD_lst, asgD_tup, asgD_obj, asgD_mv, asgD_m, it_lst, it_olst, it_scr, li_lst, li_olst, pit_lst, pit_scr, sz_lst, sz_olst, sz_oll, sz_scr, sz_tup, ad_int, ad_ll, ad_oo, ad_lo, ad_ol, mu_int, mu_l, mu_o, gI_int, gI0_int, gI2_int, ii_eqv, co_int, co_bl, co_non, co_row, co_rowO, co_nil, co_nilO, co_ps, co_p, co_p2, co_rows, ev_ll, ev_ol, ev_lo, ev_oo, ev_ln, ev_lno, ev_on, ev_ono, in_ps, in_row, gEq, gNe, gIn, gNotIn, g1, g2, gLen, gList, δof, List.getElem?_cons_zero, List.getElem?_cons_succ, List.getElem?_nil, List.set_cons_zero, List.set_cons_succ, List.map_cons, List.map_nil, List.length_cons, List.length_nil, List.replicate_succ, List.replicate_zero, List.cons_append, List.nil_append, Option.bind_some, Option.bind_none, List.all_cons, List.all_nil, List.append_nil, Nat.reduceAdd, Nat.reduceSub, true_and, and_true, Bool.and_true, Bool.true_and, dCallX, dMethX, dCallV, dCallVX, dRaiseC, dDct, Bool.not_true]
    refine cgD (f := fun e => .bl (kndB e)) es (fun e he R hR => ?_) (fun _ => rfl) (by omega) ?_
    · have ge1 := ge e he
      simp only [T_check_row_c1, mK, dSeq, dIfS, dT, dTn, dTa, dTo, dOp, dVar, dC, dFz_eq, dCB, dCons, dNil, dCall, dCallB, dMeth, dMethB, dSet, dApp, dExt, dRet, dRetM, dNx, dDrop, dNeg, dAnd, dOr, dNot, dIf, dCh, dCh3, dU, dTup, dLst, dFld, dIsi, dIl, dIe, dIr1, dIr2, dIv1, dgN, dgT, putAll, dFor, dPar2, dPar3, dSetT, dLc, dYes, dSl, dNo, dSome, dRev, dNev, dSset, dCount, dIndex, dLrg1, dLrg2, dTwo, un_non, un_int, un_bl, un_str, un_lst, un_tup, un_obj, un_dct, un_scr, un_olst, un_oll, un_oobj, un_mv, un_m, un_p, pl_non, pl_int, pl_bl, pl_str, pl_lst, pl_tup, pl_obj, pl_dct, pl_scr, pl_m, pl_p, fzm_non, fzm_int, fzm_bl, fzm_lst, fzm_tup, fzm_obj, fzm_scr, fzm_olst, fzm_oll, fzm_oobj, fzm_m, frz_non, frz_int, frz_bl, frz_str, frz_lst, frz_tup, frz_obj, frz_dct, frz_scr, frz_olst, frz_oll, frz_m, fz_no, fz_tr, see_no, see_tr, asB_bl, asI_int, asgD_non, asgD_int, asgD_bl, asgD_lst, asgD_tup, asgD_obj, asgD_mv, asgD_m, it_lst, it_olst, it_scr, li_lst, li_olst, pit_lst, pit_scr, sz_lst, sz_olst, sz_oll, sz_scr, sz_tup, ad_int, ad_ll, ad_oo, ad_lo, ad_ol, mu_int, mu_l, mu_o, gI_int, gI0_int, gI2_int, ii_eqv, co_int, co_bl, co_non, co_row, co_rowO, co_nil, co_nilO, co_ps, co_p, co_p2, co_rows, ev_ll, ev_ol, ev_lo, ev_oo, ev_ln, ev_lno, ev_on, ev_ono, in_ps, in_row, gEq, gNe, gIn, gNotIn, g1, g2, gLen, gList, δof, List.getElem?_cons_zero, List.getElem?_cons_succ, List.getElem?_nil, List.set_cons_zero, List.set_cons_succ, List.map_cons, List.map_nil, List.length_cons, List.length_nil, List.replicate_succ, List.replicate_zero, List.cons_append, List.nil_append, Option.bind_some, Option.bind_none, List.all_cons, List.all_nil, List.append_nil, Nat.reduceAdd, Nat.reduceSub, true_and, and_true, Bool.and_true, Bool.true_and, dCallX, dMethX, dCallV, dCallVX, dRaiseC, dDct, gd_un ge1, gd_pl ge1]
      exact ⟨isA_is_kind, e, rfl, ge1, hR⟩
    refine ga_map ?_
    have h : (match es.all kndB with
      | true => Q .non
      | false => R (cBR K)) := h
    cases q : es.all kndB with
    | true =>
      rw [q] at h
      exact h
    | false =>
      rw [q] at h
      exact h
  | _ => exact h
def G_Minds_mind (K : PySem.W.Frag) : GX := fun ds _ R => ∃ a b, ds = [m3 K, a, b] ∧ (a.gd = true ∧ b.gd = true) ∧ (kndB a && kndB b) = false ∧ R (cBR K)
/-! ### Minds.mind -/
abbrev N_Minds_mind : List Str := ["self", "one", "other"]
def T_Minds_mind (R : Addr → Prop) (K : PySem.W.Frag) : DS := (dSeq (dDrop (dCallX (G_check_row K) R (dCons (dVar 0) (dCons (dFz (dLst (dCons (dVar 1) (dCons (dVar 2) dNil)))) dNil))))
  dNev)
theorem rd_Minds_mind {K : PySem.W.Frag} : ∀ ds Q R, G_Minds_mind K ds Q R → T_Minds_mind R K { nx := fun _ => Q .non, rt := Q } (δof N_Minds_mind.length ds) := by
  rintro _ Q R ⟨a, b, rfl, ⟨ga, gb⟩, hk, h⟩
  simp only [T_Minds_mind, m3, mK, dSeq, dIfS, dT, dTn, dTa, dTo, dOp, dVar, dC, dFz_eq, dCB, dCons, dNil, dCall, dCallB, dMeth, dMethB, dSet, dApp, dExt, dRet, dRetM, dNx, dDrop, dNeg, dAnd, dOr, dNot, dIf, dCh, dCh3, dU, dTup, dLst, dFld, dIsi, dIl, dIe, dIr1, dIr2, dIv1, dgN, dgT, putAll, dFor, dPar2, dPar3, dSetT, dLc, dYes, dSl, dNo, dSome, dRev, dNev, dSset, dCount, dIndex, dLrg1, dLrg2, dTwo, un_non, un_int, un_bl, un_str, un_lst, un_tup, un_obj, un_dct, un_scr, un_olst, un_oll, un_oobj, un_mv, un_m, un_p, pl_non, pl_int, pl_bl, pl_str, pl_lst, pl_tup, pl_obj, pl_dct, pl_scr, pl_m, pl_p, fzm_non, fzm_int, fzm_bl, fzm_lst, fzm_tup, fzm_obj, fzm_scr, fzm_olst, fzm_oll, fzm_oobj, fzm_m, frz_non, frz_int, frz_bl, frz_str, frz_lst, frz_tup, frz_obj, frz_dct, frz_scr, frz_olst, frz_oll, frz_m, fz_no, fz_tr, see_no, see_tr, asB_bl, asI_int, asgD_non, asgD_int, asgD_bl, asgD_lst, asgD_tup, asgD_obj, asgD_mv, asgD_m, it_lst, it_olst, it_scr, li_lst, li_olst, pit_lst, pit_scr, sz_lst, sz_olst, sz_oll, sz_scr, sz_tup, ad_int, ad_ll, ad_oo, ad_lo, ad_ol, mu_int, mu_l, mu_o, gI_int, gI0_int, gI2_int, ii_eqv, co_int, co_bl, co_non, co_row, co_rowO, co_nil, co_nilO, co_ps, co_p, co_p2, co_rows, ev_ll, ev_ol, ev_lo, ev_oo, ev_ln, ev_lno, ev_on, ev_ono, in_ps, in_row, gEq, gNe, gIn, gNotIn, g1, g2, gLen, gList, δof, List.getElem?_cons_zero, List.getElem?_cons_succ, List.getElem?_nil, List.set_cons_zero, List.set_cons_succ, List.map_cons, List.map_nil, List.length_cons, List.length_nil, List.replicate_succ, List.replicate_zero, List.cons_append, List.nil_append, Option.bind_some, Option.bind_none, List.all_cons, List.all_nil, List.append_nil, Nat.reduceAdd, Nat.reduceSub, true_and, and_true, Bool.and_true, Bool.true_and, dCallX, dMethX, dCallV, dCallVX, dRaiseC, dDct, gd_un ga, gd_pl ga, gd_un gb, gd_pl gb]
  refine ⟨by decide, .lst [a, b], rfl, ?_, ?_⟩
  · show (decide ([a, b].length ≤ 1000) && (a.gd && (b.gd && true))) = true
    rw [ga, gb]
    rfl
  · have e : rowB (.lst [a, b]) = false := by
      show (kndB a && (kndB b && true)) = false
      rw [Bool.and_true]
      exact hk
    rw [e]
    exact h
def G_check_two (K : PySem.W.Frag) : GX := fun ds _ R => ∃ a b, ds = [m3 K, a, b] ∧ (a.gd = true ∧ b.gd = true) ∧ (rowB a && rowB b) = false ∧ R (cBR K)
/-! ### check_two -/
abbrev N_check_two : List Str := ["minds", "one", "other"]
def T_check_two (R : Addr → Prop) (K : PySem.W.Frag) : DS := (dSeq (dDrop (dCallX (G_check_row K) R (dCons (dVar 0) (dCons (dVar 1) dNil))))
  (dDrop (dCallX (G_check_row K) R (dCons (dVar 0) (dCons (dVar 2) dNil)))))
theorem rd_check_two {K : PySem.W.Frag} : ∀ ds Q R, G_check_two K ds Q R → T_check_two R K { nx := fun _ => Q .non, rt := Q } (δof N_check_two.length ds) := by
  rintro _ Q R ⟨a, b, rfl, ⟨ga, gb⟩, hk, h⟩
  simp only [T_check_two, m3, mK, dSeq, dIfS, dT, dTn, dTa, dTo, dOp, dVar, dC, dFz_eq, dCB, dCons, dNil, dCall, dCallB, dMeth, dMethB, dSet, dApp, dExt, dRet, dRetM, dNx, dDrop, dNeg, dAnd, dOr, dNot, dIf, dCh, dCh3, dU, dTup, dLst, dFld, dIsi, dIl, dIe, dIr1, dIr2, dIv1, dgN, dgT, putAll, dFor, dPar2, dPar3, dSetT, dLc, dYes, dSl, dNo, dSome, dRev, dNev, dSset, dCount, dIndex, dLrg1, dLrg2, dTwo, un_non, un_int, un_bl, un_str, un_lst, un_tup, un_obj, un_dct, un_scr, un_olst, un_oll, un_oobj, un_mv, un_m, un_p, pl_non, pl_int, pl_bl, pl_str, pl_lst, pl_tup, pl_obj, pl_dct, pl_scr, pl_m, pl_p, fzm_non, fzm_int, fzm_bl, fzm_lst, fzm_tup, fzm_obj, fzm_scr, fzm_olst, fzm_oll, fzm_oobj, fzm_m, frz_non, frz_int, frz_bl, frz_str, frz_lst, frz_tup, frz_obj, frz_dct, frz_scr, frz_olst, frz_oll, frz_m, fz_no, fz_tr, see_no, see_tr, asB_bl, asI_int, asgD_non, asgD_int, asgD_bl, asgD_lst, asgD_tup, asgD_obj, asgD_mv, asgD_m, it_lst, it_olst, it_scr, li_lst, li_olst, pit_lst, pit_scr, sz_lst, sz_olst, sz_oll, sz_scr, sz_tup, ad_int, ad_ll, ad_oo, ad_lo, ad_ol, mu_int, mu_l, mu_o, gI_int, gI0_int, gI2_int, ii_eqv, co_int, co_bl, co_non, co_row, co_rowO, co_nil, co_nilO, co_ps, co_p, co_p2, co_rows, ev_ll, ev_ol, ev_lo, ev_oo, ev_ln, ev_lno, ev_on, ev_ono, in_ps, in_row, gEq, gNe, gIn, gNotIn, g1, g2, gLen, gList, δof, List.getElem?_cons_zero, List.getElem?_cons_succ, List.getElem?_nil, List.set_cons_zero, List.set_cons_succ, List.map_cons, List.map_nil, List.length_cons, List.length_nil, List.replicate_succ, List.replicate_zero, List.cons_append, List.nil_append, Option.bind_some, Option.bind_none, List.all_cons, List.all_nil, List.append_nil, Nat.reduceAdd, Nat.reduceSub, true_and, and_true, Bool.and_true, Bool.true_and, dCallX, dMethX, dCallV, dCallVX, dRaiseC, dDct, gd_un ga, gd_pl ga, gd_un gb, gd_pl gb]
  refine ⟨a, rfl, ga, ?_⟩
  cases qa : rowB a with
  | false => exact h
  | true =>
    rw [qa, Bool.true_and] at hk
    refine ⟨b, rfl, gb, ?_⟩
    rw [hk]
    exact h
def G_alike (K : PySem.W.Frag) : GX := G_check_two K
/-! ### alike -/
abbrev N_alike : List Str := ["minds", "one", "other", "places", "first", "second"]
def T_alike (R : Addr → Prop) (K : PySem.W.Frag) : DS := (dSeq (dDrop (dCallX (G_check_two K) R (dCons (dVar 0) (dCons (dVar 1) (dCons (dVar 2) dNil)))))
  (dSeq dNev
  (dSeq dNev
  (dSeq dNev
  dNev))))
theorem rd_alike {K : PySem.W.Frag} : ∀ ds Q R, G_alike K ds Q R → T_alike R K { nx := fun _ => Q .non, rt := Q } (δof N_alike.length ds) := by
  rintro _ Q R ⟨a, b, rfl, ⟨ga, gb⟩, hk, h⟩
  simp only [T_alike, m3, mK, dSeq, dIfS, dT, dTn, dTa, dTo, dOp, dVar, dC, dFz_eq, dCB, dCons, dNil, dCall, dCallB, dMeth, dMethB, dSet, dApp, dExt, dRet, dRetM, dNx, dDrop, dNeg, dAnd, dOr, dNot, dIf, dCh, dCh3, dU, dTup, dLst, dFld, dIsi, dIl, dIe, dIr1, dIr2, dIv1, dgN, dgT, putAll, dFor, dPar2, dPar3, dSetT, dLc, dYes, dSl, dNo, dSome, dRev, dNev, dSset, dCount, dIndex, dLrg1, dLrg2, dTwo, un_non, un_int, un_bl, un_str, un_lst, un_tup, un_obj, un_dct, un_scr, un_olst, un_oll, un_oobj, un_mv, un_m, un_p, pl_non, pl_int, pl_bl, pl_str, pl_lst, pl_tup, pl_obj, pl_dct, pl_scr, pl_m, pl_p, fzm_non, fzm_int, fzm_bl, fzm_lst, fzm_tup, fzm_obj, fzm_scr, fzm_olst, fzm_oll, fzm_oobj, fzm_m, frz_non, frz_int, frz_bl, frz_str, frz_lst, frz_tup, frz_obj, frz_dct, frz_scr, frz_olst, frz_oll, frz_m, fz_no, fz_tr, see_no, see_tr, asB_bl, asI_int, asgD_non, asgD_int, asgD_bl, asgD_lst, asgD_tup, asgD_obj, asgD_mv, asgD_m, it_lst, it_olst, it_scr, li_lst, li_olst, pit_lst, pit_scr, sz_lst, sz_olst, sz_oll, sz_scr, sz_tup, ad_int, ad_ll, ad_oo, ad_lo, ad_ol, mu_int, mu_l, mu_o, gI_int, gI0_int, gI2_int, ii_eqv, co_int, co_bl, co_non, co_row, co_rowO, co_nil, co_nilO, co_ps, co_p, co_p2, co_rows, ev_ll, ev_ol, ev_lo, ev_oo, ev_ln, ev_lno, ev_on, ev_ono, in_ps, in_row, gEq, gNe, gIn, gNotIn, g1, g2, gLen, gList, δof, List.getElem?_cons_zero, List.getElem?_cons_succ, List.getElem?_nil, List.set_cons_zero, List.set_cons_succ, List.map_cons, List.map_nil, List.length_cons, List.length_nil, List.replicate_succ, List.replicate_zero, List.cons_append, List.nil_append, Option.bind_some, Option.bind_none, List.all_cons, List.all_nil, List.append_nil, Nat.reduceAdd, Nat.reduceSub, true_and, and_true, Bool.and_true, Bool.true_and, dCallX, dMethX, dCallV, dCallVX, dRaiseC, dDct, gd_un ga, gd_pl ga, gd_un gb, gd_pl gb]
  exact ⟨a, b, rfl, ⟨ga, gb⟩, hk, h⟩
def G_begins (K : PySem.W.Frag) : GX := G_check_two K
/-! ### begins -/
abbrev N_begins : List Str := ["minds", "one", "other", "rest", "first", "second"]
def T_begins (R : Addr → Prop) (K : PySem.W.Frag) : DS := (dSeq (dDrop (dCallX (G_check_two K) R (dCons (dVar 0) (dCons (dVar 1) (dCons (dVar 2) dNil)))))
  (dSeq dNev
  (dSeq dNev
  (dSeq dNev
  dNev))))
theorem rd_begins {K : PySem.W.Frag} : ∀ ds Q R, G_begins K ds Q R → T_begins R K { nx := fun _ => Q .non, rt := Q } (δof N_begins.length ds) := by
  rintro _ Q R ⟨a, b, rfl, ⟨ga, gb⟩, hk, h⟩
  simp only [T_begins, m3, mK, dSeq, dIfS, dT, dTn, dTa, dTo, dOp, dVar, dC, dFz_eq, dCB, dCons, dNil, dCall, dCallB, dMeth, dMethB, dSet, dApp, dExt, dRet, dRetM, dNx, dDrop, dNeg, dAnd, dOr, dNot, dIf, dCh, dCh3, dU, dTup, dLst, dFld, dIsi, dIl, dIe, dIr1, dIr2, dIv1, dgN, dgT, putAll, dFor, dPar2, dPar3, dSetT, dLc, dYes, dSl, dNo, dSome, dRev, dNev, dSset, dCount, dIndex, dLrg1, dLrg2, dTwo, un_non, un_int, un_bl, un_str, un_lst, un_tup, un_obj, un_dct, un_scr, un_olst, un_oll, un_oobj, un_mv, un_m, un_p, pl_non, pl_int, pl_bl, pl_str, pl_lst, pl_tup, pl_obj, pl_dct, pl_scr, pl_m, pl_p, fzm_non, fzm_int, fzm_bl, fzm_lst, fzm_tup, fzm_obj, fzm_scr, fzm_olst, fzm_oll, fzm_oobj, fzm_m, frz_non, frz_int, frz_bl, frz_str, frz_lst, frz_tup, frz_obj, frz_dct, frz_scr, frz_olst, frz_oll, frz_m, fz_no, fz_tr, see_no, see_tr, asB_bl, asI_int, asgD_non, asgD_int, asgD_bl, asgD_lst, asgD_tup, asgD_obj, asgD_mv, asgD_m, it_lst, it_olst, it_scr, li_lst, li_olst, pit_lst, pit_scr, sz_lst, sz_olst, sz_oll, sz_scr, sz_tup, ad_int, ad_ll, ad_oo, ad_lo, ad_ol, mu_int, mu_l, mu_o, gI_int, gI0_int, gI2_int, ii_eqv, co_int, co_bl, co_non, co_row, co_rowO, co_nil, co_nilO, co_ps, co_p, co_p2, co_rows, ev_ll, ev_ol, ev_lo, ev_oo, ev_ln, ev_lno, ev_on, ev_ono, in_ps, in_row, gEq, gNe, gIn, gNotIn, g1, g2, gLen, gList, δof, List.getElem?_cons_zero, List.getElem?_cons_succ, List.getElem?_nil, List.set_cons_zero, List.set_cons_succ, List.map_cons, List.map_nil, List.length_cons, List.length_nil, List.replicate_succ, List.replicate_zero, List.cons_append, List.nil_append, Option.bind_some, Option.bind_none, List.all_cons, List.all_nil, List.append_nil, Nat.reduceAdd, Nat.reduceSub, true_and, and_true, Bool.and_true, Bool.true_and, dCallX, dMethX, dCallV, dCallVX, dRaiseC, dDct, gd_un ga, gd_pl ga, gd_un gb, gd_pl gb]
  exact ⟨a, b, rfl, ⟨ga, gb⟩, hk, h⟩
def G_together (K : PySem.W.Frag) : GX := G_check_two K
/-! ### together -/
abbrev N_together : List Str := ["minds", "one", "other", "left", "more", "kind", "place", "ahead", "first", "second"]
def T_together (R : Addr → Prop) (K : PySem.W.Frag) : DS := (dSeq (dDrop (dCallX (G_check_two K) R (dCons (dVar 0) (dCons (dVar 1) (dCons (dVar 2) dNil)))))
  (dSeq dNev
  (dSeq dNev
  (dSeq dNev
  dNev))))
theorem rd_together {K : PySem.W.Frag} : ∀ ds Q R, G_together K ds Q R → T_together R K { nx := fun _ => Q .non, rt := Q } (δof N_together.length ds) := by
  rintro _ Q R ⟨a, b, rfl, ⟨ga, gb⟩, hk, h⟩
  simp only [T_together, m3, mK, dSeq, dIfS, dT, dTn, dTa, dTo, dOp, dVar, dC, dFz_eq, dCB, dCons, dNil, dCall, dCallB, dMeth, dMethB, dSet, dApp, dExt, dRet, dRetM, dNx, dDrop, dNeg, dAnd, dOr, dNot, dIf, dCh, dCh3, dU, dTup, dLst, dFld, dIsi, dIl, dIe, dIr1, dIr2, dIv1, dgN, dgT, putAll, dFor, dPar2, dPar3, dSetT, dLc, dYes, dSl, dNo, dSome, dRev, dNev, dSset, dCount, dIndex, dLrg1, dLrg2, dTwo, un_non, un_int, un_bl, un_str, un_lst, un_tup, un_obj, un_dct, un_scr, un_olst, un_oll, un_oobj, un_mv, un_m, un_p, pl_non, pl_int, pl_bl, pl_str, pl_lst, pl_tup, pl_obj, pl_dct, pl_scr, pl_m, pl_p, fzm_non, fzm_int, fzm_bl, fzm_lst, fzm_tup, fzm_obj, fzm_scr, fzm_olst, fzm_oll, fzm_oobj, fzm_m, frz_non, frz_int, frz_bl, frz_str, frz_lst, frz_tup, frz_obj, frz_dct, frz_scr, frz_olst, frz_oll, frz_m, fz_no, fz_tr, see_no, see_tr, asB_bl, asI_int, asgD_non, asgD_int, asgD_bl, asgD_lst, asgD_tup, asgD_obj, asgD_mv, asgD_m, it_lst, it_olst, it_scr, li_lst, li_olst, pit_lst, pit_scr, sz_lst, sz_olst, sz_oll, sz_scr, sz_tup, ad_int, ad_ll, ad_oo, ad_lo, ad_ol, mu_int, mu_l, mu_o, gI_int, gI0_int, gI2_int, ii_eqv, co_int, co_bl, co_non, co_row, co_rowO, co_nil, co_nilO, co_ps, co_p, co_p2, co_rows, ev_ll, ev_ol, ev_lo, ev_oo, ev_ln, ev_lno, ev_on, ev_ono, in_ps, in_row, gEq, gNe, gIn, gNotIn, g1, g2, gLen, gList, δof, List.getElem?_cons_zero, List.getElem?_cons_succ, List.getElem?_nil, List.set_cons_zero, List.set_cons_succ, List.map_cons, List.map_nil, List.length_cons, List.length_nil, List.replicate_succ, List.replicate_zero, List.cons_append, List.nil_append, Option.bind_some, Option.bind_none, List.all_cons, List.all_nil, List.append_nil, Nat.reduceAdd, Nat.reduceSub, true_and, and_true, Bool.and_true, Bool.true_and, dCallX, dMethX, dCallV, dCallVX, dRaiseC, dDct, gd_un ga, gd_pl ga, gd_un gb, gd_pl gb]
  exact ⟨a, b, rfl, ⟨ga, gb⟩, hk, h⟩
def G_common (K : PySem.W.Frag) : GX := G_check_two K
/-! ### common -/
abbrev N_common : List Str := ["minds", "one", "other", "row", "mine", "theirs", "may", "kind"]
def T_common (R : Addr → Prop) (K : PySem.W.Frag) : DS := (dSeq (dDrop (dCallX (G_check_two K) R (dCons (dVar 0) (dCons (dVar 1) (dCons (dVar 2) dNil)))))
  (dSeq dNev
  (dSeq dNev
  (dSeq dNev
  (dSeq dNev
  dNev)))))
theorem rd_common {K : PySem.W.Frag} : ∀ ds Q R, G_common K ds Q R → T_common R K { nx := fun _ => Q .non, rt := Q } (δof N_common.length ds) := by
  rintro _ Q R ⟨a, b, rfl, ⟨ga, gb⟩, hk, h⟩
  simp only [T_common, m3, mK, dSeq, dIfS, dT, dTn, dTa, dTo, dOp, dVar, dC, dFz_eq, dCB, dCons, dNil, dCall, dCallB, dMeth, dMethB, dSet, dApp, dExt, dRet, dRetM, dNx, dDrop, dNeg, dAnd, dOr, dNot, dIf, dCh, dCh3, dU, dTup, dLst, dFld, dIsi, dIl, dIe, dIr1, dIr2, dIv1, dgN, dgT, putAll, dFor, dPar2, dPar3, dSetT, dLc, dYes, dSl, dNo, dSome, dRev, dNev, dSset, dCount, dIndex, dLrg1, dLrg2, dTwo, un_non, un_int, un_bl, un_str, un_lst, un_tup, un_obj, un_dct, un_scr, un_olst, un_oll, un_oobj, un_mv, un_m, un_p, pl_non, pl_int, pl_bl, pl_str, pl_lst, pl_tup, pl_obj, pl_dct, pl_scr, pl_m, pl_p, fzm_non, fzm_int, fzm_bl, fzm_lst, fzm_tup, fzm_obj, fzm_scr, fzm_olst, fzm_oll, fzm_oobj, fzm_m, frz_non, frz_int, frz_bl, frz_str, frz_lst, frz_tup, frz_obj, frz_dct, frz_scr, frz_olst, frz_oll, frz_m, fz_no, fz_tr, see_no, see_tr, asB_bl, asI_int, asgD_non, asgD_int, asgD_bl, asgD_lst, asgD_tup, asgD_obj, asgD_mv, asgD_m, it_lst, it_olst, it_scr, li_lst, li_olst, pit_lst, pit_scr, sz_lst, sz_olst, sz_oll, sz_scr, sz_tup, ad_int, ad_ll, ad_oo, ad_lo, ad_ol, mu_int, mu_l, mu_o, gI_int, gI0_int, gI2_int, ii_eqv, co_int, co_bl, co_non, co_row, co_rowO, co_nil, co_nilO, co_ps, co_p, co_p2, co_rows, ev_ll, ev_ol, ev_lo, ev_oo, ev_ln, ev_lno, ev_on, ev_ono, in_ps, in_row, gEq, gNe, gIn, gNotIn, g1, g2, gLen, gList, δof, List.getElem?_cons_zero, List.getElem?_cons_succ, List.getElem?_nil, List.set_cons_zero, List.set_cons_succ, List.map_cons, List.map_nil, List.length_cons, List.length_nil, List.replicate_succ, List.replicate_zero, List.cons_append, List.nil_append, Option.bind_some, Option.bind_none, List.all_cons, List.all_nil, List.append_nil, Nat.reduceAdd, Nat.reduceSub, true_and, and_true, Bool.and_true, Bool.true_and, dCallX, dMethX, dCallV, dCallVX, dRaiseC, dDct, gd_un ga, gd_pl ga, gd_un gb, gd_pl gb]
  exact ⟨a, b, rfl, ⟨ga, gb⟩, hk, h⟩
def G_firsts (K : PySem.W.Frag) : GX := fun ds _ R => ∃ a, ds = [m3 K, a] ∧ a.gd = true ∧ rowB a = false ∧ R (cBR K)
def G_rounds (K : PySem.W.Frag) : GX := G_firsts K
def G_least (K : PySem.W.Frag) : GX := G_firsts K
/-! ### firsts -/
abbrev N_firsts : List Str := ["minds", "row"]
def T_firsts (R : Addr → Prop) (K : PySem.W.Frag) : DS := (dSeq (dDrop (dCallX (G_check_row K) R (dCons (dVar 0) (dCons (dVar 1) dNil))))
  dNev)
theorem rd_firsts {K : PySem.W.Frag} : ∀ ds Q R, G_firsts K ds Q R → T_firsts R K { nx := fun _ => Q .non, rt := Q } (δof N_firsts.length ds) := by
  rintro _ Q R ⟨a, rfl, ga, hk, h⟩
  simp only [T_firsts, m3, mK, dSeq, dIfS, dT, dTn, dTa, dTo, dOp, dVar, dC, dFz_eq, dCB, dCons, dNil, dCall, dCallB, dMeth, dMethB, dSet, dApp, dExt, dRet, dRetM, dNx, dDrop, dNeg, dAnd, dOr, dNot, dIf, dCh, dCh3, dU, dTup, dLst, dFld, dIsi, dIl, dIe, dIr1, dIr2, dIv1, dgN, dgT, putAll, dFor, dPar2, dPar3, dSetT, dLc, dYes, dSl, dNo, dSome, dRev, dNev, dSset, dCount, dIndex, dLrg1, dLrg2, dTwo, un_non, un_int, un_bl, un_str, un_lst, un_tup, un_obj, un_dct, un_scr, un_olst, un_oll, un_oobj, un_mv, un_m, un_p, pl_non, pl_int, pl_bl, pl_str, pl_lst, pl_tup, pl_obj, pl_dct, pl_scr, pl_m, pl_p, fzm_non, fzm_int, fzm_bl, fzm_lst, fzm_tup, fzm_obj, fzm_scr, fzm_olst, fzm_oll, fzm_oobj, fzm_m, frz_non, frz_int, frz_bl, frz_str, frz_lst, frz_tup, frz_obj, frz_dct, frz_scr, frz_olst, frz_oll, frz_m, fz_no, fz_tr, see_no, see_tr, asB_bl, asI_int, asgD_non, asgD_int, asgD_bl, asgD_lst, asgD_tup, asgD_obj, asgD_mv, asgD_m, it_lst, it_olst, it_scr, li_lst, li_olst, pit_lst, pit_scr, sz_lst, sz_olst, sz_oll, sz_scr, sz_tup, ad_int, ad_ll, ad_oo, ad_lo, ad_ol, mu_int, mu_l, mu_o, gI_int, gI0_int, gI2_int, ii_eqv, co_int, co_bl, co_non, co_row, co_rowO, co_nil, co_nilO, co_ps, co_p, co_p2, co_rows, ev_ll, ev_ol, ev_lo, ev_oo, ev_ln, ev_lno, ev_on, ev_ono, in_ps, in_row, gEq, gNe, gIn, gNotIn, g1, g2, gLen, gList, δof, List.getElem?_cons_zero, List.getElem?_cons_succ, List.getElem?_nil, List.set_cons_zero, List.set_cons_succ, List.map_cons, List.map_nil, List.length_cons, List.length_nil, List.replicate_succ, List.replicate_zero, List.cons_append, List.nil_append, Option.bind_some, Option.bind_none, List.all_cons, List.all_nil, List.append_nil, Nat.reduceAdd, Nat.reduceSub, true_and, and_true, Bool.and_true, Bool.true_and, dCallX, dMethX, dCallV, dCallVX, dRaiseC, dDct, gd_un ga, gd_pl ga]
  refine ⟨a, rfl, ga, ?_⟩
  rw [hk]
  exact h
/-! ### rounds -/
abbrev N_rounds : List Str := ["minds", "row", "depths", "ahead", "found", "depth", "place", "kind", "places", "some"]
def T_rounds (R : Addr → Prop) (K : PySem.W.Frag) : DS := (dSeq (dDrop (dCallX (G_check_row K) R (dCons (dVar 0) (dCons (dVar 1) dNil))))
  (dSeq dNev
  (dSeq dNev
  (dSeq dNev
  (dSeq dNev
  (dSeq dNev
  (dSeq dNev
  dNev)))))))
theorem rd_rounds {K : PySem.W.Frag} : ∀ ds Q R, G_rounds K ds Q R → T_rounds R K { nx := fun _ => Q .non, rt := Q } (δof N_rounds.length ds) := by
  rintro _ Q R ⟨a, rfl, ga, hk, h⟩
  simp only [T_rounds, m3, mK, dSeq, dIfS, dT, dTn, dTa, dTo, dOp, dVar, dC, dFz_eq, dCB, dCons, dNil, dCall, dCallB, dMeth, dMethB, dSet, dApp, dExt, dRet, dRetM, dNx, dDrop, dNeg, dAnd, dOr, dNot, dIf, dCh, dCh3, dU, dTup, dLst, dFld, dIsi, dIl, dIe, dIr1, dIr2, dIv1, dgN, dgT, putAll, dFor, dPar2, dPar3, dSetT, dLc, dYes, dSl, dNo, dSome, dRev, dNev, dSset, dCount, dIndex, dLrg1, dLrg2, dTwo, un_non, un_int, un_bl, un_str, un_lst, un_tup, un_obj, un_dct, un_scr, un_olst, un_oll, un_oobj, un_mv, un_m, un_p, pl_non, pl_int, pl_bl, pl_str, pl_lst, pl_tup, pl_obj, pl_dct, pl_scr, pl_m, pl_p, fzm_non, fzm_int, fzm_bl, fzm_lst, fzm_tup, fzm_obj, fzm_scr, fzm_olst, fzm_oll, fzm_oobj, fzm_m, frz_non, frz_int, frz_bl, frz_str, frz_lst, frz_tup, frz_obj, frz_dct, frz_scr, frz_olst, frz_oll, frz_m, fz_no, fz_tr, see_no, see_tr, asB_bl, asI_int, asgD_non, asgD_int, asgD_bl, asgD_lst, asgD_tup, asgD_obj, asgD_mv, asgD_m, it_lst, it_olst, it_scr, li_lst, li_olst, pit_lst, pit_scr, sz_lst, sz_olst, sz_oll, sz_scr, sz_tup, ad_int, ad_ll, ad_oo, ad_lo, ad_ol, mu_int, mu_l, mu_o, gI_int, gI0_int, gI2_int, ii_eqv, co_int, co_bl, co_non, co_row, co_rowO, co_nil, co_nilO, co_ps, co_p, co_p2, co_rows, ev_ll, ev_ol, ev_lo, ev_oo, ev_ln, ev_lno, ev_on, ev_ono, in_ps, in_row, gEq, gNe, gIn, gNotIn, g1, g2, gLen, gList, δof, List.getElem?_cons_zero, List.getElem?_cons_succ, List.getElem?_nil, List.set_cons_zero, List.set_cons_succ, List.map_cons, List.map_nil, List.length_cons, List.length_nil, List.replicate_succ, List.replicate_zero, List.cons_append, List.nil_append, Option.bind_some, Option.bind_none, List.all_cons, List.all_nil, List.append_nil, Nat.reduceAdd, Nat.reduceSub, true_and, and_true, Bool.and_true, Bool.true_and, dCallX, dMethX, dCallV, dCallVX, dRaiseC, dDct, gd_un ga, gd_pl ga]
  refine ⟨a, rfl, ga, ?_⟩
  rw [hk]
  exact h
/-! ### least -/
abbrev N_least : List Str := ["minds", "row", "found", "left", "kind"]
def T_least (R : Addr → Prop) (K : PySem.W.Frag) : DS := (dSeq (dDrop (dCallX (G_check_row K) R (dCons (dVar 0) (dCons (dVar 1) dNil))))
  (dSeq dNev
  (dSeq dNev
  (dSeq dNev
  dNev))))
theorem rd_least {K : PySem.W.Frag} : ∀ ds Q R, G_least K ds Q R → T_least R K { nx := fun _ => Q .non, rt := Q } (δof N_least.length ds) := by
  rintro _ Q R ⟨a, rfl, ga, hk, h⟩
  simp only [T_least, m3, mK, dSeq, dIfS, dT, dTn, dTa, dTo, dOp, dVar, dC, dFz_eq, dCB, dCons, dNil, dCall, dCallB, dMeth, dMethB, dSet, dApp, dExt, dRet, dRetM, dNx, dDrop, dNeg, dAnd, dOr, dNot, dIf, dCh, dCh3, dU, dTup, dLst, dFld, dIsi, dIl, dIe, dIr1, dIr2, dIv1, dgN, dgT, putAll, dFor, dPar2, dPar3, dSetT, dLc, dYes, dSl, dNo, dSome, dRev, dNev, dSset, dCount, dIndex, dLrg1, dLrg2, dTwo, un_non, un_int, un_bl, un_str, un_lst, un_tup, un_obj, un_dct, un_scr, un_olst, un_oll, un_oobj, un_mv, un_m, un_p, pl_non, pl_int, pl_bl, pl_str, pl_lst, pl_tup, pl_obj, pl_dct, pl_scr, pl_m, pl_p, fzm_non, fzm_int, fzm_bl, fzm_lst, fzm_tup, fzm_obj, fzm_scr, fzm_olst, fzm_oll, fzm_oobj, fzm_m, frz_non, frz_int, frz_bl, frz_str, frz_lst, frz_tup, frz_obj, frz_dct, frz_scr, frz_olst, frz_oll, frz_m, fz_no, fz_tr, see_no, see_tr, asB_bl, asI_int, asgD_non, asgD_int, asgD_bl, asgD_lst, asgD_tup, asgD_obj, asgD_mv, asgD_m, it_lst, it_olst, it_scr, li_lst, li_olst, pit_lst, pit_scr, sz_lst, sz_olst, sz_oll, sz_scr, sz_tup, ad_int, ad_ll, ad_oo, ad_lo, ad_ol, mu_int, mu_l, mu_o, gI_int, gI0_int, gI2_int, ii_eqv, co_int, co_bl, co_non, co_row, co_rowO, co_nil, co_nilO, co_ps, co_p, co_p2, co_rows, ev_ll, ev_ol, ev_lo, ev_oo, ev_ln, ev_lno, ev_on, ev_ono, in_ps, in_row, gEq, gNe, gIn, gNotIn, g1, g2, gLen, gList, δof, List.getElem?_cons_zero, List.getElem?_cons_succ, List.getElem?_nil, List.set_cons_zero, List.set_cons_succ, List.map_cons, List.map_nil, List.length_cons, List.length_nil, List.replicate_succ, List.replicate_zero, List.cons_append, List.nil_append, Option.bind_some, Option.bind_none, List.all_cons, List.all_nil, List.append_nil, Nat.reduceAdd, Nat.reduceSub, true_and, and_true, Bool.and_true, Bool.true_and, dCallX, dMethX, dCallV, dCallVX, dRaiseC, dDct, gd_un ga, gd_pl ga]
  refine ⟨a, rfl, ga, ?_⟩
  rw [hk]
  exact h
def G_exchanged (K : PySem.W.Frag) : GX := fun ds _ R => ∃ r p, ds = [m3 K, r, p] ∧ (r.gd = true ∧ p.gd = true) ∧ ((rowB r = false ∧ R (cBR K)) ∨ (r = rD [0, 2, 1] ∧ (∀ es, p = .lst es → es.all plB = false) ∧ R (cBP K)))
/-! ### exchanged -/
abbrev N_exchanged : List Str := ["minds", "row", "places", "place", "found", "at"]
def T_exchanged_c1 (K : PySem.W.Frag) : DE := (dAnd (dCall (G_is_number K) (dCons (dVar 3) dNil)) (dCh gLe gLt (dC (.int 0)) (dVar 3) (dOp (gI0 fun i j => .int (i - j)) (dCB gLen (dCons (dVar 1) dNil)) (dC (.int 1)))))
def T_exchanged (R : Addr → Prop) (K : PySem.W.Frag) : DS := (dSeq (dDrop (dCallX (G_check_row K) R (dCons (dVar 0) (dCons (dVar 1) dNil))))
  (dSeq (dIfS (dTo (dTn (dT (dIsi K (.type "list") (dVar 2)))) (dTn (dT (dCB gAll (dCons (dLc 3 (dIl (dVar 2)) dYes (T_exchanged_c1 K)) dNil))))) (dRaiseC (_root_.He.ga K "BadPlaces") R) dNx)
  (dSeq dNev
  (dSeq dNev
  dNev))))
theorem rd_exchanged {K : PySem.W.Frag} : ∀ ds Q R, G_exchanged K ds Q R → T_exchanged R K { nx := fun _ => Q .non, rt := Q } (δof N_exchanged.length ds) := by
  rintro _ Q R ⟨r, p, rfl, ⟨gr, gp⟩, h⟩
  simp only [T_exchanged, m3, mK, dSeq, dIfS, dT, dTn, dTa, dTo, dOp, dVar, dC, dFz_eq, dCB, dCons, dNil, dCall, dCallB, dMeth, dMethB, dSet, dApp, dExt, dRet, dRetM, dNx, dDrop, dNeg, dAnd, dOr, dNot, dIf, dCh, dCh3, dU, dTup, dLst, dFld, dIsi, dIl, dIe, dIr1, dIr2, dIv1, dgN, dgT, putAll, dFor, dPar2, dPar3, dSetT, dLc, dYes, dSl, dNo, dSome, dRev, dNev, dSset, dCount, dIndex, dLrg1, dLrg2, dTwo, un_non, un_int, un_bl, un_str, un_lst, un_tup, un_obj, un_dct, un_scr, un_olst, un_oll, un_oobj, un_mv, un_m, un_p, pl_non, pl_int, pl_bl, pl_str, pl_lst, pl_tup, pl_obj, pl_dct, pl_scr, pl_m, pl_p, fzm_non, fzm_int, fzm_bl, fzm_lst, fzm_tup, fzm_obj, fzm_scr, fzm_olst, fzm_oll, fzm_oobj, fzm_m, frz_non, frz_int, frz_bl, frz_str, frz_lst, frz_tup, frz_obj, frz_dct, frz_scr, frz_olst, frz_oll, frz_m, fz_no, fz_tr, see_no, see_tr, asB_bl, asI_int, asgD_non, asgD_int, asgD_bl, asgD_lst, asgD_tup, asgD_obj, asgD_mv, asgD_m, it_lst, it_olst, it_scr, li_lst, li_olst, pit_lst, pit_scr, sz_lst, sz_olst, sz_oll, sz_scr, sz_tup, ad_int, ad_ll, ad_oo, ad_lo, ad_ol, mu_int, mu_l, mu_o, gI_int, gI0_int, gI2_int, ii_eqv, co_int, co_bl, co_non, co_row, co_rowO, co_nil, co_nilO, co_ps, co_p, co_p2, co_rows, ev_ll, ev_ol, ev_lo, ev_oo, ev_ln, ev_lno, ev_on, ev_ono, in_ps, in_row, gEq, gNe, gIn, gNotIn, g1, g2, gLen, gList, δof, List.getElem?_cons_zero, List.getElem?_cons_succ, List.getElem?_nil, List.set_cons_zero, List.set_cons_succ, List.map_cons, List.map_nil, List.length_cons, List.length_nil, List.replicate_succ, List.replicate_zero, List.cons_append, List.nil_append, Option.bind_some, Option.bind_none, List.all_cons, List.all_nil, List.append_nil, Nat.reduceAdd, Nat.reduceSub, true_and, and_true, Bool.and_true, Bool.true_and, dCallX, dMethX, dCallV, dCallVX, dRaiseC, dDct, gd_un gr, gd_pl gr, gd_un gp, gd_pl gp]
  refine ⟨r, rfl, gr, ?_⟩
  rcases h with ⟨hr, h⟩ | ⟨rfl, hp, h⟩
  · rw [hr]
    exact h
  · have e : rowB (rD [0, 2, 1]) = true := rfl
    rw [e]
    refine isi_L gp ?_
    cases p with
    | lst es =>
      obtain ⟨l, ge⟩ := gd_lst gp
      have hp := hp es rfl
      simp only [D.isL, dSeq, dIfS, dT, dTn, dTa, dTo, dOp, dVar, dC, dFz_eq, dCB, dCons, dNil, dCall, dCallB, dMeth, dMethB, dSet, dApp, dExt, dRet, dRetM, dNx, dDrop, dNeg, dAnd, dOr, dNot, dIf, dCh, dCh3, dU, dTup, dLst, dFld, dIsi, dIl, dIe, dIr1, dIr2, dIv1, dgN, dgT, putAll, dFor, dPar2, dPar3, dSetT, dLc, dYes, dSl, dNo, dSome, dRev, dNev, dSset, dCount, dIndex, dLrg1, dLrg2, dTwo, un_non, un_int, un_bl, un_str, un_lst, un_tup, un_obj, un_dct, un_scr, un_olst, un_oll, un_oobj, un_mv, un_m, un_p, pl_non, pl_int, pl_bl, pl_str, pl_lst, pl_tup, pl_obj, pl_dct, pl_scr, pl_m, pl_p, fzm_non, fzm_int, fzm_bl, fzm_lst, fzm_tup, fzm_obj, fzm_scr, fzm_olst, fzm_oll, fzm_oobj, fzm_m, frz_non, frz_int, frz_bl, frz_str, frz_lst, frz_tup, frz_obj, frz_dct, frz_scr, frz_olst, frz_oll, frz_m, fz_no, fz_tr, see_no, see_tr, asB_bl, asI_int, asgD_non, asgD_int, asgD_bl, asgD_lst, asgD_tup, asgD_obj, asgD_mv, asgD_m, it_lst, it_olst, it_scr, li_lst, li_olst, pit_lst, pit_scr, sz_lst, sz_olst, sz_oll, sz_scr, sz_tup, ad_int, ad_ll, ad_oo, ad_lo, ad_ol, mu_int, mu_l, mu_o, gI_int, gI0_int, gI2_int, ii_eqv, co_int, co_bl, co_non, co_row, co_rowO, co_nil, co_nilO, co_ps, co_p, co_p2, co_rows, ev_ll, ev_ol, ev_lo, ev_oo, ev_ln, ev_lno, ev_on, ev_ono, in_ps, in_row, gEq, gNe, gIn, gNotIn, g1, g2, gLen, gList, δof, List.getElem?_cons_zero, List.getElem?_cons_succ, List.getElem?_nil, List.set_cons_zero, List.set_cons_succ, List.map_cons, List.map_nil, List.length_cons, List.length_nil, List.replicate_succ, List.replicate_zero, List.cons_append, List.nil_append, Option.bind_some, Option.bind_none, List.all_cons, List.all_nil, List.append_nil, Nat.reduceAdd, Nat.reduceSub, true_and, and_true, Bool.and_true, Bool.true_and, dCallX, dMethX, dCallV, dCallVX, dRaiseC, dDct, Bool.not_true]
      refine cgD (f := fun e => .bl (plB e)) es (fun e he R hR => ?_) (fun _ => rfl) (by omega) ?_
      · have ge1 := ge e he
        simp only [T_exchanged_c1, dSeq, dIfS, dT, dTn, dTa, dTo, dOp, dVar, dC, dFz_eq, dCB, dCons, dNil, dCall, dCallB, dMeth, dMethB, dSet, dApp, dExt, dRet, dRetM, dNx, dDrop, dNeg, dAnd, dOr, dNot, dIf, dCh, dCh3, dU, dTup, dLst, dFld, dIsi, dIl, dIe, dIr1, dIr2, dIv1, dgN, dgT, putAll, dFor, dPar2, dPar3, dSetT, dLc, dYes, dSl, dNo, dSome, dRev, dNev, dSset, dCount, dIndex, dLrg1, dLrg2, dTwo, un_non, un_int, un_bl, un_str, un_lst, un_tup, un_obj, un_dct, un_scr, un_olst, un_oll, un_oobj, un_mv, un_m, un_p, pl_non, pl_int, pl_bl, pl_str, pl_lst, pl_tup, pl_obj, pl_dct, pl_scr, pl_m, pl_p, fzm_non, fzm_int, fzm_bl, fzm_lst, fzm_tup, fzm_obj, fzm_scr, fzm_olst, fzm_oll, fzm_oobj, fzm_m, frz_non, frz_int, frz_bl, frz_str, frz_lst, frz_tup, frz_obj, frz_dct, frz_scr, frz_olst, frz_oll, frz_m, fz_no, fz_tr, see_no, see_tr, asB_bl, asI_int, asgD_non, asgD_int, asgD_bl, asgD_lst, asgD_tup, asgD_obj, asgD_mv, asgD_m, it_lst, it_olst, it_scr, li_lst, li_olst, pit_lst, pit_scr, sz_lst, sz_olst, sz_oll, sz_scr, sz_tup, ad_int, ad_ll, ad_oo, ad_lo, ad_ol, mu_int, mu_l, mu_o, gI_int, gI0_int, gI2_int, ii_eqv, co_int, co_bl, co_non, co_row, co_rowO, co_nil, co_nilO, co_ps, co_p, co_p2, co_rows, ev_ll, ev_ol, ev_lo, ev_oo, ev_ln, ev_lno, ev_on, ev_ono, in_ps, in_row, gEq, gNe, gIn, gNotIn, g1, g2, gLen, gList, δof, List.getElem?_cons_zero, List.getElem?_cons_succ, List.getElem?_nil, List.set_cons_zero, List.set_cons_succ, List.map_cons, List.map_nil, List.length_cons, List.length_nil, List.replicate_succ, List.replicate_zero, List.cons_append, List.nil_append, Option.bind_some, Option.bind_none, List.all_cons, List.all_nil, List.append_nil, Nat.reduceAdd, Nat.reduceSub, true_and, and_true, Bool.and_true, Bool.true_and, dCallX, dMethX, dCallV, dCallVX, dRaiseC, dDct, gd_un ge1, gd_pl ge1]
        refine ⟨e, rfl, ge1, ?_⟩
        cases e with
        | int i =>
          have hR : R (.bl (decide (0 ≤ i ∧ i < 2))) := hR
          simp only [D.isN, dSeq, dIfS, dT, dTn, dTa, dTo, dOp, dVar, dC, dFz_eq, dCB, dCons, dNil, dCall, dCallB, dMeth, dMethB, dSet, dApp, dExt, dRet, dRetM, dNx, dDrop, dNeg, dAnd, dOr, dNot, dIf, dCh, dCh3, dU, dTup, dLst, dFld, dIsi, dIl, dIe, dIr1, dIr2, dIv1, dgN, dgT, putAll, dFor, dPar2, dPar3, dSetT, dLc, dYes, dSl, dNo, dSome, dRev, dNev, dSset, dCount, dIndex, dLrg1, dLrg2, dTwo, un_non, un_int, un_bl, un_str, un_lst, un_tup, un_obj, un_dct, un_scr, un_olst, un_oll, un_oobj, un_mv, un_m, un_p, pl_non, pl_int, pl_bl, pl_str, pl_lst, pl_tup, pl_obj, pl_dct, pl_scr, pl_m, pl_p, fzm_non, fzm_int, fzm_bl, fzm_lst, fzm_tup, fzm_obj, fzm_scr, fzm_olst, fzm_oll, fzm_oobj, fzm_m, frz_non, frz_int, frz_bl, frz_str, frz_lst, frz_tup, frz_obj, frz_dct, frz_scr, frz_olst, frz_oll, frz_m, fz_no, fz_tr, see_no, see_tr, asB_bl, asI_int, asgD_non, asgD_int, asgD_bl, asgD_lst, asgD_tup, asgD_obj, asgD_mv, asgD_m, it_lst, it_olst, it_scr, li_lst, li_olst, pit_lst, pit_scr, sz_lst, sz_olst, sz_oll, sz_scr, sz_tup, ad_int, ad_ll, ad_oo, ad_lo, ad_ol, mu_int, mu_l, mu_o, gI_int, gI0_int, gI2_int, ii_eqv, co_int, co_bl, co_non, co_row, co_rowO, co_nil, co_nilO, co_ps, co_p, co_p2, co_rows, ev_ll, ev_ol, ev_lo, ev_oo, ev_ln, ev_lno, ev_on, ev_ono, in_ps, in_row, gEq, gNe, gIn, gNotIn, g1, g2, gLen, gList, δof, List.getElem?_cons_zero, List.getElem?_cons_succ, List.getElem?_nil, List.set_cons_zero, List.set_cons_succ, List.map_cons, List.map_nil, List.length_cons, List.length_nil, List.replicate_succ, List.replicate_zero, List.cons_append, List.nil_append, Option.bind_some, Option.bind_none, List.all_cons, List.all_nil, List.append_nil, Nat.reduceAdd, Nat.reduceSub, true_and, and_true, Bool.and_true, Bool.true_and, dCallX, dMethX, dCallV, dCallVX, dRaiseC, dDct]
          by_cases c : 0 ≤ i
          · rw [decide_eq_true c]
            simp only [dSeq, dIfS, dT, dTn, dTa, dTo, dOp, dVar, dC, dFz_eq, dCB, dCons, dNil, dCall, dCallB, dMeth, dMethB, dSet, dApp, dExt, dRet, dRetM, dNx, dDrop, dNeg, dAnd, dOr, dNot, dIf, dCh, dCh3, dU, dTup, dLst, dFld, dIsi, dIl, dIe, dIr1, dIr2, dIv1, dgN, dgT, putAll, dFor, dPar2, dPar3, dSetT, dLc, dYes, dSl, dNo, dSome, dRev, dNev, dSset, dCount, dIndex, dLrg1, dLrg2, dTwo, un_non, un_int, un_bl, un_str, un_lst, un_tup, un_obj, un_dct, un_scr, un_olst, un_oll, un_oobj, un_mv, un_m, un_p, pl_non, pl_int, pl_bl, pl_str, pl_lst, pl_tup, pl_obj, pl_dct, pl_scr, pl_m, pl_p, fzm_non, fzm_int, fzm_bl, fzm_lst, fzm_tup, fzm_obj, fzm_scr, fzm_olst, fzm_oll, fzm_oobj, fzm_m, frz_non, frz_int, frz_bl, frz_str, frz_lst, frz_tup, frz_obj, frz_dct, frz_scr, frz_olst, frz_oll, frz_m, fz_no, fz_tr, see_no, see_tr, asB_bl, asI_int, asgD_non, asgD_int, asgD_bl, asgD_lst, asgD_tup, asgD_obj, asgD_mv, asgD_m, it_lst, it_olst, it_scr, li_lst, li_olst, pit_lst, pit_scr, sz_lst, sz_olst, sz_oll, sz_scr, sz_tup, ad_int, ad_ll, ad_oo, ad_lo, ad_ol, mu_int, mu_l, mu_o, gI_int, gI0_int, gI2_int, ii_eqv, co_int, co_bl, co_non, co_row, co_rowO, co_nil, co_nilO, co_ps, co_p, co_p2, co_rows, ev_ll, ev_ol, ev_lo, ev_oo, ev_ln, ev_lno, ev_on, ev_ono, in_ps, in_row, gEq, gNe, gIn, gNotIn, g1, g2, gLen, gList, δof, List.getElem?_cons_zero, List.getElem?_cons_succ, List.getElem?_nil, List.set_cons_zero, List.set_cons_succ, List.map_cons, List.map_nil, List.length_cons, List.length_nil, List.replicate_succ, List.replicate_zero, List.cons_append, List.nil_append, Option.bind_some, Option.bind_none, List.all_cons, List.all_nil, List.append_nil, Nat.reduceAdd, Nat.reduceSub, true_and, and_true, Bool.and_true, Bool.true_and, dCallX, dMethX, dCallV, dCallVX, dRaiseC, dDct]
            simpa [c] using hR
          · rw [decide_eq_false c]
            simpa [c] using hR
        | _ => exact hR
      · refine ga_map ?_
        rw [hp]
        exact h
    | _ => exact h
def G_had (K : PySem.W.Frag) : GX := fun ds P R => ∃ r a b, ds = [m3 K, r, a, b] ∧ (r.gd = true ∧ a.gd = true ∧ b.gd = true) ∧ ((rowB r = false ∧ R (cBR K)) ∨ (rowB r = true ∧ (kndB a && kndB b) = false ∧ R (cBR K)) ∨ (r = rD [0] ∧ a = .int 0 ∧ b = .int 2 ∧ R (cBR K)) ∨
  (r = rD [1, 2, 0, 1] ∧ a = .int 0 ∧ b = .int 1 ∧ P (.mv (.olst (([1, 0, 1] : List Int).map .int)))))
/-! ### had -/
abbrev N_had : List Str := ["minds", "row", "one", "other"]
def T_had (R : Addr → Prop) (K : PySem.W.Frag) : DS := (dSeq (dDrop (dCallX (G_check_row K) R (dCons (dVar 0) (dCons (dVar 1) dNil))))
  (dSeq (dDrop (dCallX (G_check_row K) R (dCons (dVar 0) (dCons (dFz (dLst (dCons (dVar 2) (dCons (dVar 3) dNil)))) dNil))))
  (dSeq (dIfS (dTn (dT (dMeth (He.ga K "Minds") "minding" (G_Minds_minding K) (dVar 0) (dCons (dVar 2) (dCons (dVar 3) dNil))))) (dRaiseC (_root_.He.ga K "BadRow") R) dNx)
  (dRet (dCall (G_part_of K) (dCons (dVar 1) (dCons (dVar 2) (dCons (dVar 3) dNil))))))))
theorem rd_had {K : PySem.W.Frag} : ∀ ds Q R, G_had K ds Q R → T_had R K { nx := fun _ => Q .non, rt := Q } (δof N_had.length ds) := by
  rintro _ Q R ⟨r, a, b, rfl, ⟨gr, ga, gb⟩, h⟩
  have gab : D.gd (.lst [a, b]) = true := by
    show (decide ([a, b].length ≤ 1000) && (a.gd && (b.gd && true))) = true
    rw [ga, gb]
    rfl
  have eab : rowB (.lst [a, b]) = (kndB a && kndB b) := by
    show (kndB a && (kndB b && true)) = _
    rw [Bool.and_true]
  simp only [T_had, m3, mK, dSeq, dIfS, dT, dTn, dTa, dTo, dOp, dVar, dC, dFz_eq, dCB, dCons, dNil, dCall, dCallB, dMeth, dMethB, dSet, dApp, dExt, dRet, dRetM, dNx, dDrop, dNeg, dAnd, dOr, dNot, dIf, dCh, dCh3, dU, dTup, dLst, dFld, dIsi, dIl, dIe, dIr1, dIr2, dIv1, dgN, dgT, putAll, dFor, dPar2, dPar3, dSetT, dLc, dYes, dSl, dNo, dSome, dRev, dNev, dSset, dCount, dIndex, dLrg1, dLrg2, dTwo, un_non, un_int, un_bl, un_str, un_lst, un_tup, un_obj, un_dct, un_scr, un_olst, un_oll, un_oobj, un_mv, un_m, un_p, pl_non, pl_int, pl_bl, pl_str, pl_lst, pl_tup, pl_obj, pl_dct, pl_scr, pl_m, pl_p, fzm_non, fzm_int, fzm_bl, fzm_lst, fzm_tup, fzm_obj, fzm_scr, fzm_olst, fzm_oll, fzm_oobj, fzm_m, frz_non, frz_int, frz_bl, frz_str, frz_lst, frz_tup, frz_obj, frz_dct, frz_scr, frz_olst, frz_oll, frz_m, fz_no, fz_tr, see_no, see_tr, asB_bl, asI_int, asgD_non, asgD_int, asgD_bl, asgD_lst, asgD_tup, asgD_obj, asgD_mv, asgD_m, it_lst, it_olst, it_scr, li_lst, li_olst, pit_lst, pit_scr, sz_lst, sz_olst, sz_oll, sz_scr, sz_tup, ad_int, ad_ll, ad_oo, ad_lo, ad_ol, mu_int, mu_l, mu_o, gI_int, gI0_int, gI2_int, ii_eqv, co_int, co_bl, co_non, co_row, co_rowO, co_nil, co_nilO, co_ps, co_p, co_p2, co_rows, ev_ll, ev_ol, ev_lo, ev_oo, ev_ln, ev_lno, ev_on, ev_ono, in_ps, in_row, gEq, gNe, gIn, gNotIn, g1, g2, gLen, gList, δof, List.getElem?_cons_zero, List.getElem?_cons_succ, List.getElem?_nil, List.set_cons_zero, List.set_cons_succ, List.map_cons, List.map_nil, List.length_cons, List.length_nil, List.replicate_succ, List.replicate_zero, List.cons_append, List.nil_append, Option.bind_some, Option.bind_none, List.all_cons, List.all_nil, List.append_nil, Nat.reduceAdd, Nat.reduceSub, true_and, and_true, Bool.and_true, Bool.true_and, dCallX, dMethX, dCallV, dCallVX, dRaiseC, dDct, gd_un gr, gd_pl gr, gd_un ga, gd_pl ga, gd_un gb, gd_pl gb]
  refine ⟨r, rfl, gr, ?_⟩
  rcases h with ⟨hr, h⟩ | ⟨hr, hk, h⟩ | ⟨rfl, rfl, rfl, h⟩ | ⟨rfl, rfl, rfl, h⟩
  · rw [hr]
    exact h
  · rw [hr]
    refine ⟨by decide, .lst [a, b], rfl, gab, ?_⟩
    rw [eab, hk]
    exact h
  · refine ⟨by decide, .lst [.int 0, .int 2], rfl, gab, ?_⟩
    refine ⟨isA_minding, 3, [(0, 1)], 0, 2, rfl, ?_⟩
    have e : mnd [(0, 1)] 0 2 = false := by decide
    rw [e]
    exact h
  · refine ⟨by decide, .lst [.int 0, .int 1], rfl, gab, ?_⟩
    refine ⟨isA_minding, 3, [(0, 1)], 0, 1, rfl, ?_⟩
    have e : mnd [(0, 1)] 0 1 = true := by decide
    rw [e]
    exact ⟨rfl, [1, 2, 0, 1], 0, 1, rfl, by decide, h⟩
/-! ### Minds's way in -/
def G_Minds_init (K : PySem.W.Frag) : GX := fun ds P R => (∃ (n : Int) (ps : List (Int × Int)), ds = [.int n, .lst (ps.map pD)] ∧ 1 ≤ n ∧ PairsOk n ps ∧ P (.mv (newM K n ps))) ∨ (∃ a b, ds = [a, b] ∧ (a.gd = true ∧ b.gd = true) ∧ (cntB a && b.isL) = false ∧ R (cBM K)) ∨
  (∃ (n : Int) (es : List D), ds = [.int n, .lst es] ∧ D.gd (.lst es) = true ∧ 1 ≤ n ∧ (es.all (prB n) = false ∨ (es.all (prB n) = true ∧ ∃ ps : List (Int × Int), es = ps.map pD ∧ ps.length < 64 ∧ ¬ ps.Nodup)) ∧ R (cBM K))
theorem gd_p (q : Int × Int) : (pD q).gd = true := rfl
theorem gd_ps {ps : List (Int × Int)} (h : ps.length ≤ 1000) : D.gd (.lst (ps.map pD)) = true := by
  have e : ∀ ps : List (Int × Int), gdL (ps.map pD) = true := fun ps => by
    induction ps with
    | nil => rfl
    | cons q ps ih =>
      show ((pD q).gd && gdL (ps.map pD)) = true
      rw [ih]
      rfl
  show (decide ((ps.map pD).length ≤ 1000) && gdL (ps.map pD)) = true
  rw [e, List.length_map, decide_eq_true h]
  rfl
def T_Minds_init_0 (K : PySem.W.Frag) : DT := (dTo (dTn (dT (dCall (G_is_number K) (dCons (dVar 1) dNil)))) (dTo (dT (dOp gLt (dVar 1) (dC (.int 1)))) (dTn (dT (dIsi K (.type "list") (dVar 2))))))
theorem rd_Minds_init_0 {K : PySem.W.Frag} {a b : D} (ga : a.gd = true) (gb : b.gd = true) {c : Bool} (hc : c = !(cntB a && b.isL)) : T_Minds_init_0 K (DV.no :: δof (N_Minds_init.length - 1) [a, b]) fun v => v = c := by
  subst hc
  simp only [T_Minds_init_0, dSeq, dIfS, dT, dTn, dTa, dTo, dOp, dVar, dC, dFz_eq, dCB, dCons, dNil, dCall, dCallB, dMeth, dMethB, dSet, dApp, dExt, dRet, dRetM, dNx, dDrop, dNeg, dAnd, dOr, dNot, dIf, dCh, dCh3, dU, dTup, dLst, dFld, dIsi, dIl, dIe, dIr1, dIr2, dIv1, dgN, dgT, putAll, dFor, dPar2, dPar3, dSetT, dLc, dYes, dSl, dNo, dSome, dRev, dNev, dSset, dCount, dIndex, dLrg1, dLrg2, dTwo, un_non, un_int, un_bl, un_str, un_lst, un_tup, un_obj, un_dct, un_scr, un_olst, un_oll, un_oobj, un_mv, un_m, un_p, pl_non, pl_int, pl_bl, pl_str, pl_lst, pl_tup, pl_obj, pl_dct, pl_scr, pl_m, pl_p, fzm_non, fzm_int, fzm_bl, fzm_lst, fzm_tup, fzm_obj, fzm_scr, fzm_olst, fzm_oll, fzm_oobj, fzm_m, frz_non, frz_int, frz_bl, frz_str, frz_lst, frz_tup, frz_obj, frz_dct, frz_scr, frz_olst, frz_oll, frz_m, fz_no, fz_tr, see_no, see_tr, asB_bl, asI_int, asgD_non, asgD_int, asgD_bl, asgD_lst, asgD_tup, asgD_obj, asgD_mv, asgD_m, it_lst, it_olst, it_scr, li_lst, li_olst, pit_lst, pit_scr, sz_lst, sz_olst, sz_oll, sz_scr, sz_tup, ad_int, ad_ll, ad_oo, ad_lo, ad_ol, mu_int, mu_l, mu_o, gI_int, gI0_int, gI2_int, ii_eqv, co_int, co_bl, co_non, co_row, co_rowO, co_nil, co_nilO, co_ps, co_p, co_p2, co_rows, ev_ll, ev_ol, ev_lo, ev_oo, ev_ln, ev_lno, ev_on, ev_ono, in_ps, in_row, gEq, gNe, gIn, gNotIn, g1, g2, gLen, gList, δof, List.getElem?_cons_zero, List.getElem?_cons_succ, List.getElem?_nil, List.set_cons_zero, List.set_cons_succ, List.map_cons, List.map_nil, List.length_cons, List.length_nil, List.replicate_succ, List.replicate_zero, List.cons_append, List.nil_append, Option.bind_some, Option.bind_none, List.all_cons, List.all_nil, List.append_nil, Nat.reduceAdd, Nat.reduceSub, true_and, and_true, Bool.and_true, Bool.true_and, dCallX, dMethX, dCallV, dCallVX, dRaiseC, dDct, gd_un ga, gd_pl ga, gd_un gb, gd_pl gb]
  refine ⟨a, rfl, ga, ?_⟩
  cases a with
  | int i =>
    simp only [D.isN, cntB, dSeq, dIfS, dT, dTn, dTa, dTo, dOp, dVar, dC, dFz_eq, dCB, dCons, dNil, dCall, dCallB, dMeth, dMethB, dSet, dApp, dExt, dRet, dRetM, dNx, dDrop, dNeg, dAnd, dOr, dNot, dIf, dCh, dCh3, dU, dTup, dLst, dFld, dIsi, dIl, dIe, dIr1, dIr2, dIv1, dgN, dgT, putAll, dFor, dPar2, dPar3, dSetT, dLc, dYes, dSl, dNo, dSome, dRev, dNev, dSset, dCount, dIndex, dLrg1, dLrg2, dTwo, un_non, un_int, un_bl, un_str, un_lst, un_tup, un_obj, un_dct, un_scr, un_olst, un_oll, un_oobj, un_mv, un_m, un_p, pl_non, pl_int, pl_bl, pl_str, pl_lst, pl_tup, pl_obj, pl_dct, pl_scr, pl_m, pl_p, fzm_non, fzm_int, fzm_bl, fzm_lst, fzm_tup, fzm_obj, fzm_scr, fzm_olst, fzm_oll, fzm_oobj, fzm_m, frz_non, frz_int, frz_bl, frz_str, frz_lst, frz_tup, frz_obj, frz_dct, frz_scr, frz_olst, frz_oll, frz_m, fz_no, fz_tr, see_no, see_tr, asB_bl, asI_int, asgD_non, asgD_int, asgD_bl, asgD_lst, asgD_tup, asgD_obj, asgD_mv, asgD_m, it_lst, it_olst, it_scr, li_lst, li_olst, pit_lst, pit_scr, sz_lst, sz_olst, sz_oll, sz_scr, sz_tup, ad_int, ad_ll, ad_oo, ad_lo, ad_ol, mu_int, mu_l, mu_o, gI_int, gI0_int, gI2_int, ii_eqv, co_int, co_bl, co_non, co_row, co_rowO, co_nil, co_nilO, co_ps, co_p, co_p2, co_rows, ev_ll, ev_ol, ev_lo, ev_oo, ev_ln, ev_lno, ev_on, ev_ono, in_ps, in_row, gEq, gNe, gIn, gNotIn, g1, g2, gLen, gList, δof, List.getElem?_cons_zero, List.getElem?_cons_succ, List.getElem?_nil, List.set_cons_zero, List.set_cons_succ, List.map_cons, List.map_nil, List.length_cons, List.length_nil, List.replicate_succ, List.replicate_zero, List.cons_append, List.nil_append, Option.bind_some, Option.bind_none, List.all_cons, List.all_nil, List.append_nil, Nat.reduceAdd, Nat.reduceSub, true_and, and_true, Bool.and_true, Bool.true_and, dCallX, dMethX, dCallV, dCallVX, dRaiseC, dDct, Bool.not_true]
    by_cases c : i < 1
    · rw [decide_eq_true c, decide_eq_false (show ¬ 1 ≤ i by omega)]
      rfl
    · rw [decide_eq_false c, decide_eq_true (show 1 ≤ i by omega)]
      exact isi_L gb rfl
  | _ => first | (cases ga; done) | rfl
def T_Minds_init_c1 (K : PySem.W.Frag) : DE := (dFz (dCall (G_is_pair K) (dCons (dVar 3) (dCons (dVar 1) dNil))))
def T_Minds_init_1 (K : PySem.W.Frag) : DT := (dTo (dTn (dT (dCB gAll (dCons (dLc 3 (dIl (dVar 2)) dYes (T_Minds_init_c1 K)) dNil)))) (dT (dOp gLt (dLset2 (dVar 2)) (dCB gLen (dCons (dVar 2) dNil)))))
theorem minds_init_1 {K : PySem.W.Frag} {n : Int} {es : List D} {Q : Bool → Prop} (g : D.gd (.lst es) = true) (h1 : es.all (prB n) = false → Q true) (h2 : es.all (prB n) = true → ∃ ps : List (Int × Int), es = ps.map pD ∧ ps.length < 64 ∧ ∀ qs : List (Int × Int), qs.Nodup → (∀ q, q ∈ qs ↔ q ∈ ps) → Q (decide (qs.length < ps.length))) :
    T_Minds_init_1 K (DV.no :: δof (N_Minds_init.length - 1) [.int n, .lst es]) Q := by
  obtain ⟨l, ge⟩ := gd_lst g
  simp only [T_Minds_init_1, dSeq, dIfS, dT, dTn, dTa, dTo, dOp, dVar, dC, dFz_eq, dCB, dCons, dNil, dCall, dCallB, dMeth, dMethB, dSet, dApp, dExt, dRet, dRetM, dNx, dDrop, dNeg, dAnd, dOr, dNot, dIf, dCh, dCh3, dU, dTup, dLst, dFld, dIsi, dIl, dIe, dIr1, dIr2, dIv1, dgN, dgT, putAll, dFor, dPar2, dPar3, dSetT, dLc, dYes, dSl, dNo, dSome, dRev, dNev, dSset, dCount, dIndex, dLrg1, dLrg2, dTwo, un_non, un_int, un_bl, un_str, un_lst, un_tup, un_obj, un_dct, un_scr, un_olst, un_oll, un_oobj, un_mv, un_m, un_p, pl_non, pl_int, pl_bl, pl_str, pl_lst, pl_tup, pl_obj, pl_dct, pl_scr, pl_m, pl_p, fzm_non, fzm_int, fzm_bl, fzm_lst, fzm_tup, fzm_obj, fzm_scr, fzm_olst, fzm_oll, fzm_oobj, fzm_m, frz_non, frz_int, frz_bl, frz_str, frz_lst, frz_tup, frz_obj, frz_dct, frz_scr, frz_olst, frz_oll, frz_m, fz_no, fz_tr, see_no, see_tr, asB_bl, asI_int, asgD_non, asgD_int, asgD_bl, asgD_lst, asgD_tup, asgD_obj, asgD_mv, asgD_m, it_lst, it_olst, it_scr, li_lst, li_olst, pit_lst, pit_scr, sz_lst, sz_olst, sz_oll, sz_scr, sz_tup, ad_int, ad_ll, ad_oo, ad_lo, ad_ol, mu_int, mu_l, mu_o, gI_int, gI0_int, gI2_int, ii_eqv, co_int, co_bl, co_non, co_row, co_rowO, co_nil, co_nilO, co_ps, co_p, co_p2, co_rows, ev_ll, ev_ol, ev_lo, ev_oo, ev_ln, ev_lno, ev_on, ev_ono, in_ps, in_row, gEq, gNe, gIn, gNotIn, g1, g2, gLen, gList, δof, List.getElem?_cons_zero, List.getElem?_cons_succ, List.getElem?_nil, List.set_cons_zero, List.set_cons_succ, List.map_cons, List.map_nil, List.length_cons, List.length_nil, List.replicate_succ, List.replicate_zero, List.cons_append, List.nil_append, Option.bind_some, Option.bind_none, List.all_cons, List.all_nil, List.append_nil, Nat.reduceAdd, Nat.reduceSub, true_and, and_true, Bool.and_true, Bool.true_and, dCallX, dMethX, dCallV, dCallVX, dRaiseC, dDct]
  refine cgD (f := fun e => .bl (prB n e)) es (fun e he R hR => ?_) (fun _ => rfl) (by omega) ?_
  · have ge1 := ge e he
    simp only [T_Minds_init_c1, dSeq, dIfS, dT, dTn, dTa, dTo, dOp, dVar, dC, dFz_eq, dCB, dCons, dNil, dCall, dCallB, dMeth, dMethB, dSet, dApp, dExt, dRet, dRetM, dNx, dDrop, dNeg, dAnd, dOr, dNot, dIf, dCh, dCh3, dU, dTup, dLst, dFld, dIsi, dIl, dIe, dIr1, dIr2, dIv1, dgN, dgT, putAll, dFor, dPar2, dPar3, dSetT, dLc, dYes, dSl, dNo, dSome, dRev, dNev, dSset, dCount, dIndex, dLrg1, dLrg2, dTwo, un_non, un_int, un_bl, un_str, un_lst, un_tup, un_obj, un_dct, un_scr, un_olst, un_oll, un_oobj, un_mv, un_m, un_p, pl_non, pl_int, pl_bl, pl_str, pl_lst, pl_tup, pl_obj, pl_dct, pl_scr, pl_m, pl_p, fzm_non, fzm_int, fzm_bl, fzm_lst, fzm_tup, fzm_obj, fzm_scr, fzm_olst, fzm_oll, fzm_oobj, fzm_m, frz_non, frz_int, frz_bl, frz_str, frz_lst, frz_tup, frz_obj, frz_dct, frz_scr, frz_olst, frz_oll, frz_m, fz_no, fz_tr, see_no, see_tr, asB_bl, asI_int, asgD_non, asgD_int, asgD_bl, asgD_lst, asgD_tup, asgD_obj, asgD_mv, asgD_m, it_lst, it_olst, it_scr, li_lst, li_olst, pit_lst, pit_scr, sz_lst, sz_olst, sz_oll, sz_scr, sz_tup, ad_int, ad_ll, ad_oo, ad_lo, ad_ol, mu_int, mu_l, mu_o, gI_int, gI0_int, gI2_int, ii_eqv, co_int, co_bl, co_non, co_row, co_rowO, co_nil, co_nilO, co_ps, co_p, co_p2, co_rows, ev_ll, ev_ol, ev_lo, ev_oo, ev_ln, ev_lno, ev_on, ev_ono, in_ps, in_row, gEq, gNe, gIn, gNotIn, g1, g2, gLen, gList, δof, List.getElem?_cons_zero, List.getElem?_cons_succ, List.getElem?_nil, List.set_cons_zero, List.set_cons_succ, List.map_cons, List.map_nil, List.length_cons, List.length_nil, List.replicate_succ, List.replicate_zero, List.cons_append, List.nil_append, Option.bind_some, Option.bind_none, List.all_cons, List.all_nil, List.append_nil, Nat.reduceAdd, Nat.reduceSub, true_and, and_true, Bool.and_true, Bool.true_and, dCallX, dMethX, dCallV, dCallVX, dRaiseC, dDct, gd_un ge1, gd_pl ge1]
    exact ⟨e, n, rfl, ge1, hR⟩
  refine ga_map ?_
  cases q : es.all (prB n) with
  | false => exact h1 q
  | true =>
    obtain ⟨ps, rfl, few, h⟩ := h2 q
    simp only [dSeq, dIfS, dT, dTn, dTa, dTo, dOp, dVar, dC, dFz_eq, dCB, dCons, dNil, dCall, dCallB, dMeth, dMethB, dSet, dApp, dExt, dRet, dRetM, dNx, dDrop, dNeg, dAnd, dOr, dNot, dIf, dCh, dCh3, dU, dTup, dLst, dFld, dIsi, dIl, dIe, dIr1, dIr2, dIv1, dgN, dgT, putAll, dFor, dPar2, dPar3, dSetT, dLc, dYes, dSl, dNo, dSome, dRev, dNev, dSset, dCount, dIndex, dLrg1, dLrg2, dTwo, un_non, un_int, un_bl, un_str, un_lst, un_tup, un_obj, un_dct, un_scr, un_olst, un_oll, un_oobj, un_mv, un_m, un_p, pl_non, pl_int, pl_bl, pl_str, pl_lst, pl_tup, pl_obj, pl_dct, pl_scr, pl_m, pl_p, fzm_non, fzm_int, fzm_bl, fzm_lst, fzm_tup, fzm_obj, fzm_scr, fzm_olst, fzm_oll, fzm_oobj, fzm_m, frz_non, frz_int, frz_bl, frz_str, frz_lst, frz_tup, frz_obj, frz_dct, frz_scr, frz_olst, frz_oll, frz_m, fz_no, fz_tr, see_no, see_tr, asB_bl, asI_int, asgD_non, asgD_int, asgD_bl, asgD_lst, asgD_tup, asgD_obj, asgD_mv, asgD_m, it_lst, it_olst, it_scr, li_lst, li_olst, pit_lst, pit_scr, sz_lst, sz_olst, sz_oll, sz_scr, sz_tup, ad_int, ad_ll, ad_oo, ad_lo, ad_ol, mu_int, mu_l, mu_o, gI_int, gI0_int, gI2_int, ii_eqv, co_int, co_bl, co_non, co_row, co_rowO, co_nil, co_nilO, co_ps, co_p, co_p2, co_rows, ev_ll, ev_ol, ev_lo, ev_oo, ev_ln, ev_lno, ev_on, ev_ono, in_ps, in_row, gEq, gNe, gIn, gNotIn, g1, g2, gLen, gList, δof, List.getElem?_cons_zero, List.getElem?_cons_succ, List.getElem?_nil, List.set_cons_zero, List.set_cons_succ, List.map_cons, List.map_nil, List.length_cons, List.length_nil, List.replicate_succ, List.replicate_zero, List.cons_append, List.nil_append, Option.bind_some, Option.bind_none, List.all_cons, List.all_nil, List.append_nil, Nat.reduceAdd, Nat.reduceSub, true_and, and_true, Bool.and_true, Bool.true_and, dCallX, dMethX, dCallV, dCallVX, dRaiseC, dDct, Bool.not_true, dLset2]
    refine ⟨ps, rfl, few, fun qs nd mem => ?_⟩
    have z := h qs nd mem
    simp only [dSeq, dIfS, dT, dTn, dTa, dTo, dOp, dVar, dC, dFz_eq, dCB, dCons, dNil, dCall, dCallB, dMeth, dMethB, dSet, dApp, dExt, dRet, dRetM, dNx, dDrop, dNeg, dAnd, dOr, dNot, dIf, dCh, dCh3, dU, dTup, dLst, dFld, dIsi, dIl, dIe, dIr1, dIr2, dIv1, dgN, dgT, putAll, dFor, dPar2, dPar3, dSetT, dLc, dYes, dSl, dNo, dSome, dRev, dNev, dSset, dCount, dIndex, dLrg1, dLrg2, dTwo, un_non, un_int, un_bl, un_str, un_lst, un_tup, un_obj, un_dct, un_scr, un_olst, un_oll, un_oobj, un_mv, un_m, un_p, pl_non, pl_int, pl_bl, pl_str, pl_lst, pl_tup, pl_obj, pl_dct, pl_scr, pl_m, pl_p, fzm_non, fzm_int, fzm_bl, fzm_lst, fzm_tup, fzm_obj, fzm_scr, fzm_olst, fzm_oll, fzm_oobj, fzm_m, frz_non, frz_int, frz_bl, frz_str, frz_lst, frz_tup, frz_obj, frz_dct, frz_scr, frz_olst, frz_oll, frz_m, fz_no, fz_tr, see_no, see_tr, asB_bl, asI_int, asgD_non, asgD_int, asgD_bl, asgD_lst, asgD_tup, asgD_obj, asgD_mv, asgD_m, it_lst, it_olst, it_scr, li_lst, li_olst, pit_lst, pit_scr, sz_lst, sz_olst, sz_oll, sz_scr, sz_tup, ad_int, ad_ll, ad_oo, ad_lo, ad_ol, mu_int, mu_l, mu_o, gI_int, gI0_int, gI2_int, ii_eqv, co_int, co_bl, co_non, co_row, co_rowO, co_nil, co_nilO, co_ps, co_p, co_p2, co_rows, ev_ll, ev_ol, ev_lo, ev_oo, ev_ln, ev_lno, ev_on, ev_ono, in_ps, in_row, gEq, gNe, gIn, gNotIn, g1, g2, gLen, gList, δof, List.getElem?_cons_zero, List.getElem?_cons_succ, List.getElem?_nil, List.set_cons_zero, List.set_cons_succ, List.map_cons, List.map_nil, List.length_cons, List.length_nil, List.replicate_succ, List.replicate_zero, List.cons_append, List.nil_append, Option.bind_some, Option.bind_none, List.all_cons, List.all_nil, List.append_nil, Nat.reduceAdd, Nat.reduceSub, true_and, and_true, Bool.and_true, Bool.true_and, dCallX, dMethX, dCallV, dCallVX, dRaiseC, dDct, List.length_map]
    rw [show decide (((qs.length : Nat) : Int) < ((ps.length : Nat) : Int)) = decide (qs.length < ps.length) from decide_eq_decide.mpr (by omega)]
    exact z
theorem all_prB {n : Int} {ps : List (Int × Int)} (h : ∀ q ∈ ps, 0 ≤ q.1 ∧ q.1 < q.2 ∧ q.2 < n) : (ps.map pD).all (prB n) = true := by
  rw [List.all_map, List.all_eq_true]
  intro q hq
  exact decide_eq_true (h q hq)
theorem rd_Minds_init_1f {K : PySem.W.Frag} {n : Int} {ps : List (Int × Int)} (hp : PairsOk n ps) : T_Minds_init_1 K (DV.no :: δof (N_Minds_init.length - 1) [.int n, .lst (ps.map pD)]) fun v => v = false := by
  refine minds_init_1 (K := K) (gd_ps (by have := hp.2.1; omega)) (fun z => ?_) fun _ => ⟨ps, rfl, hp.2.1, fun qs nd mem => ?_⟩
  · rw [all_prB hp.2.2] at z
    cases z
  · rw [same_len nd hp.1 mem]
    exact decide_eq_false (Nat.lt_irrefl _)
theorem len_dup {ps qs : List (Int × Int)} (nd : qs.Nodup) (mem : ∀ q, q ∈ qs ↔ q ∈ ps) (h : ¬ ps.Nodup) : qs.length < ps.length := by
  refine Nat.lt_of_le_of_ne (nodup_len nd fun q hq => (mem q).mp hq) fun e => h ?_
  -- of as many members, all among them: the same
  have : ∀ (ps qs : List (Int × Int)), qs.Nodup → (∀ q, q ∈ qs ↔ q ∈ ps) → qs.length = ps.length → ps.Nodup := fun ps qs nd mem e => by
    refine Decidable.byContradiction fun dup => ?_
    have key : ∀ ps : List (Int × Int), ¬ ps.Nodup → ∃ rs : List (Int × Int), rs.length < ps.length ∧ ∀ q, q ∈ ps → q ∈ rs := fun ps => by
      induction ps with
      | nil => exact fun h => absurd List.nodup_nil h
      | cons q ps ih =>
        intro h
        by_cases c : q ∈ ps
        · exact ⟨ps, Nat.lt_succ_self _, fun r hr => (List.mem_cons.mp hr).elim (fun z => z ▸ c) fun z => z⟩
        · obtain ⟨rs, l, hs⟩ := ih fun z => h (List.nodup_cons.mpr ⟨c, z⟩)
          exact ⟨q :: rs, Nat.succ_lt_succ l, fun r hr => (List.mem_cons.mp hr).elim (fun z => z ▸ List.mem_cons_self) fun z => List.mem_cons_of_mem _ (hs r z)⟩
    obtain ⟨rs, l, hs⟩ := key ps dup
    have := nodup_len nd fun q hq => hs q ((mem q).mp hq)
    omega
  exact this ps qs nd mem e
theorem rd_Minds_init_1t {K : PySem.W.Frag} {n : Int} {es : List D} (g : D.gd (.lst es) = true) (h : es.all (prB n) = false ∨ (es.all (prB n) = true ∧ ∃ ps : List (Int × Int), es = ps.map pD ∧ ps.length < 64 ∧ ¬ ps.Nodup)) : T_Minds_init_1 K (DV.no :: δof (N_Minds_init.length - 1) [.int n, .lst es]) fun v => v = true := by
  refine minds_init_1 (K := K) g (fun _ => rfl) fun z => ?_
  rcases h with h | ⟨_, ps, e, few, dup⟩
  · rw [h] at z
    cases z
  · exact ⟨ps, e, few, fun qs nd mem => decide_eq_true (len_dup nd mem dup)⟩
end J.X9
/-! R2: what is refused: one ask -/
namespace J.X9
open PySem PySem.Spec PyProof.Rows L2
def cN (K : PySem.W.Frag) : Nat → Addr
  | 0 => cBM K
  | 1 => cBR K
  | _ => cBP K
/-- no pairs of three kinds -/
def PrsBad (d : D) : Prop := d.isL = false ∨ ∃ es, d = .lst es ∧ (es.all (prB 3) = false ∨ (es.all (prB 3) = true ∧ ∃ ps : List (Int × Int), es = ps.map pD ∧ ps.length < 64 ∧ ¬ ps.Nodup))
def PlsBad (d : D) : Prop := ∀ es, d = .lst es → es.all plB = false
/-- what is refused at a door, by which class -/
def AskBad (door : Int) (d : D) (c : Nat) : Prop :=
  (door = 0 ∧ cntB d = false ∧ c = 0) ∨ (door = 1 ∧ PrsBad d ∧ c = 0) ∨ ((2 ≤ door ∧ door < 14) ∧ rowB d = false ∧ c = 1) ∨ (door = 14 ∧ PlsBad d ∧ c = 2) ∨ ((door = 15 ∨ door = 16 ∨ door = 18 ∨ door = 19) ∧ kndB d = false ∧ c = 1) ∨ (door = 17 ∧ rowB d = false ∧ c = 1) ∨ (door = 19 ∧ d = .int 2 ∧ c = 1)
def G_law_ask (K : PySem.W.Frag) : GX := fun ds _ R => ∃ door d c, ds = [.int door, d] ∧ d.gd = true ∧ AskBad door d c ∧ R (cN K c)
def HV_two (K : PySem.W.Frag) : Addr → GX → Prop := fun f G => (f = He.ga K "alike" ∧ G = G_alike K) ∨ (f = He.ga K "begins" ∧ G = G_begins K) ∨ (f = He.ga K "together" ∧ G = G_together K) ∨ (f = He.ga K "common" ∧ G = G_common K)
def HV_one (K : PySem.W.Frag) : Addr → GX → Prop := fun f G => (f = He.ga K "firsts" ∧ G = G_firsts K) ∨ (f = He.ga K "rounds" ∧ G = G_rounds K) ∨ (f = He.ga K "least" ∧ G = G_least K)
/-! ### law_ask -/
abbrev N_law_ask : List Str := ["_law_door", "_law_thing", "_law_minds", "_law_call", "_law_rows"]
def T_law_ask (R : Addr → Prop) (K : PySem.W.Frag) : DS := (dSeq (dSet 2 (dFz (dCallX (G_Minds_init K) (fun _ => False) (dCons (dC (.int 3)) (dCons (dFz (dLst (dCons (dTup (dCons (dC (.int 0)) (dCons (dC (.int 1)) dNil))) dNil))) dNil)))))
  (dSeq (dIfS (dT (dOp gLt (dVar 0) (dC (.int 2)))) (dRet (dIf (dT (dOp gEq (dVar 0) (dC (.int 0)))) (dCallX (G_Minds_init K) R (dCons (dVar 1) (dCons (dFz (dLst dNil)) dNil))) (dCallX (G_Minds_init K) R (dCons (dC (.int 3)) (dCons (dVar 1) dNil))))) dNx)
  (dSeq (dIfS (dT (dOp gLt (dVar 0) (dC (.int 10)))) (dSeq (dSet 3 (dFz (dOp (gI0 fun i j => .int (i - j)) (dOp (gI CDivN fun i j => .int (i.fdiv j)) (dVar 0) (dC (.int 2))) (dC (.int 1)))))
  (dSeq (dSet 4 (dOp gIx (dLst (dCons (dFz (dLst (dCons (dVar 1) (dCons (dFz (dLst (dCons (dC (.int 0)) dNil))) dNil)))) (dCons (dFz (dLst (dCons (dFz (dLst (dCons (dC (.int 0)) dNil))) (dCons (dVar 1) dNil)))) dNil))) (dOp (gI (fun _ j => j ≠ 0) fun i j => .int (i.fmod j)) (dVar 0) (dC (.int 2)))))
  (dRet (dCallVX (HV_two K) R (dOp gIx (dLst (dCons (dC (.fn (_root_.He.ga K "alike"))) (dCons (dC (.fn (_root_.He.ga K "begins"))) (dCons (dC (.fn (_root_.He.ga K "together"))) (dCons (dC (.fn (_root_.He.ga K "common"))) dNil))))) (dVar 3)) (dCons (dVar 2) (dCons (dOp gIx (dVar 4) (dC (.int 0))) (dCons (dOp gIx (dVar 4) (dC (.int 1))) dNil))))))) dNx)
  (dSeq (dIfS (dT (dOp gLt (dVar 0) (dC (.int 13)))) (dRet (dCallVX (HV_one K) R (dOp gIx (dLst (dCons (dC (.fn (_root_.He.ga K "firsts"))) (dCons (dC (.fn (_root_.He.ga K "rounds"))) (dCons (dC (.fn (_root_.He.ga K "least"))) dNil)))) (dOp (gI0 fun i j => .int (i - j)) (dVar 0) (dC (.int 10)))) (dCons (dVar 2) (dCons (dVar 1) dNil)))) dNx)
  (dSeq (dIfS (dT (dOp gLt (dVar 0) (dC (.int 15)))) (dRet (dIf (dT (dOp gEq (dVar 0) (dC (.int 13)))) (dCallX (G_exchanged K) R (dCons (dVar 2) (dCons (dVar 1) (dCons (dC .non) dNil)))) (dCallX (G_exchanged K) R (dCons (dVar 2) (dCons (dFz (dLst (dCons (dC (.int 0)) (dCons (dC (.int 2)) (dCons (dC (.int 1)) dNil))))) (dCons (dVar 1) dNil)))))) dNx)
  (dSeq (dIfS (dT (dOp gLt (dVar 0) (dC (.int 17)))) (dRet (dIf (dT (dOp gEq (dVar 0) (dC (.int 15)))) (dMethX (_root_.He.ga K "Minds") "mind" (G_Minds_mind K) R (dVar 2) (dCons (dVar 1) (dCons (dC (.int 0)) dNil))) (dMethX (_root_.He.ga K "Minds") "mind" (G_Minds_mind K) R (dVar 2) (dCons (dC (.int 2)) (dCons (dVar 1) dNil))))) dNx)
  (dSeq (dIfS (dT (dOp gLt (dVar 0) (dC (.int 19)))) (dRet (dIf (dT (dOp gEq (dVar 0) (dC (.int 17)))) (dCallX (G_had K) R (dCons (dVar 2) (dCons (dVar 1) (dCons (dC (.int 0)) (dCons (dC (.int 1)) dNil))))) (dCallX (G_had K) R (dCons (dVar 2) (dCons (dFz (dLst (dCons (dC (.int 0)) dNil))) (dCons (dVar 1) (dCons (dC (.int 1)) dNil))))))) dNx)
  (dRet (dCallX (G_had K) R (dCons (dVar 2) (dCons (dFz (dLst (dCons (dC (.int 0)) dNil))) (dCons (dC (.int 0)) (dCons (dVar 1) dNil)))))))))))))
theorem lt_t {k door : Int} {A U : DS} {E : EndsD} {δ : List DV} (h : door < k) (g : A { E with nx := U E } (.tr (.int door) :: δ)) : (dSeq (dIfS (dT (dOp gLt (dVar 0) (dC (.int k)))) A dNx) U) E (.tr (.int door) :: δ) := by
  show (match decide (door < k) with
    | true => A { E with nx := U E } (.tr (.int door) :: δ)
    | false => U E (.tr (.int door) :: δ))
  rw [decide_eq_true h]
  exact g
theorem lt_f {k door : Int} {A U : DS} {E : EndsD} {δ : List DV} (h : ¬ door < k) (g : U E (.tr (.int door) :: δ)) : (dSeq (dIfS (dT (dOp gLt (dVar 0) (dC (.int k)))) A dNx) U) E (.tr (.int door) :: δ) := by
  show (match decide (door < k) with
    | true => A { E with nx := U E } (.tr (.int door) :: δ)
    | false => U E (.tr (.int door) :: δ))
  rw [decide_eq_false h]
  exact g
theorem ok01 : PairsOk 3 [(0, 1)] := ⟨by decide, by decide, fun q hq => by
  rw [List.mem_singleton.mp hq]
  decide⟩
theorem gd_row0 : D.gd (.lst [.int 0]) = true := rfl
theorem rd_law_ask {K : PySem.W.Frag} : ∀ ds Q R, G_law_ask K ds Q R → T_law_ask R K { nx := fun _ => Q .non, rt := Q } (δof N_law_ask.length ds) := by
  rintro _ Q R ⟨door, d, c, rfl, g, hb, h⟩
  unfold T_law_ask
  have first : ∀ (U : DS), U { nx := fun _ => Q .non, rt := Q } [.tr (.int door), .tr d, .tr (m3 K), .no, .no] → (dSeq (dSet 2 (dFz (dCallX (G_Minds_init K) (fun _ => False) (dCons (dC (.int 3)) (dCons (dFz (dLst (dCons (dTup (dCons (dC (.int 0)) (dCons (dC (.int 1)) dNil))) dNil))) dNil))))) U) { nx := fun _ => Q .non, rt := Q } (δof N_law_ask.length [.int door, d]) := fun U hU => by
    simp only [dSeq, dIfS, dT, dTn, dTa, dTo, dOp, dVar, dC, dFz_eq, dCB, dCons, dNil, dCall, dCallB, dMeth, dMethB, dSet, dApp, dExt, dRet, dRetM, dNx, dDrop, dNeg, dAnd, dOr, dNot, dIf, dCh, dCh3, dU, dTup, dLst, dFld, dIsi, dIl, dIe, dIr1, dIr2, dIv1, dgN, dgT, putAll, dFor, dPar2, dPar3, dSetT, dLc, dYes, dSl, dNo, dSome, dRev, dNev, dSset, dCount, dIndex, dLrg1, dLrg2, dTwo, un_non, un_int, un_bl, un_str, un_lst, un_tup, un_obj, un_dct, un_scr, un_olst, un_oll, un_oobj, un_mv, un_m, un_p, pl_non, pl_int, pl_bl, pl_str, pl_lst, pl_tup, pl_obj, pl_dct, pl_scr, pl_m, pl_p, fzm_non, fzm_int, fzm_bl, fzm_lst, fzm_tup, fzm_obj, fzm_scr, fzm_olst, fzm_oll, fzm_oobj, fzm_m, frz_non, frz_int, frz_bl, frz_str, frz_lst, frz_tup, frz_obj, frz_dct, frz_scr, frz_olst, frz_oll, frz_m, fz_no, fz_tr, see_no, see_tr, asB_bl, asI_int, asgD_non, asgD_int, asgD_bl, asgD_lst, asgD_tup, asgD_obj, asgD_mv, asgD_m, it_lst, it_olst, it_scr, li_lst, li_olst, pit_lst, pit_scr, sz_lst, sz_olst, sz_oll, sz_scr, sz_tup, ad_int, ad_ll, ad_oo, ad_lo, ad_ol, mu_int, mu_l, mu_o, gI_int, gI0_int, gI2_int, ii_eqv, co_int, co_bl, co_non, co_row, co_rowO, co_nil, co_nilO, co_ps, co_p, co_p2, co_rows, ev_ll, ev_ol, ev_lo, ev_oo, ev_ln, ev_lno, ev_on, ev_ono, in_ps, in_row, gEq, gNe, gIn, gNotIn, g1, g2, gLen, gList, δof, List.getElem?_cons_zero, List.getElem?_cons_succ, List.getElem?_nil, List.set_cons_zero, List.set_cons_succ, List.map_cons, List.map_nil, List.length_cons, List.length_nil, List.replicate_succ, List.replicate_zero, List.cons_append, List.nil_append, Option.bind_some, Option.bind_none, List.all_cons, List.all_nil, List.append_nil, Nat.reduceAdd, Nat.reduceSub, true_and, and_true, Bool.and_true, Bool.true_and, dCallX, dMethX, dCallV, dCallVX, dRaiseC, dDct]
    refine ⟨by decide, by decide, .inl ⟨3, [(0, 1)], rfl, by decide, ok01, ?_⟩⟩
    exact hU
  refine first _ ?_
  clear first
  rcases hb with ⟨rfl, hd, rfl⟩ | ⟨rfl, hd, rfl⟩ | ⟨⟨d1, d2⟩, hd, rfl⟩ | ⟨rfl, hd, rfl⟩ | ⟨hdoor, hd, rfl⟩ | ⟨rfl, hd, rfl⟩ | ⟨rfl, rfl, rfl⟩
  · refine lt_t (by omega) ?_
    simp only [m3, mK, dSeq, dIfS, dT, dTn, dTa, dTo, dOp, dVar, dC, dFz_eq, dCB, dCons, dNil, dCall, dCallB, dMeth, dMethB, dSet, dApp, dExt, dRet, dRetM, dNx, dDrop, dNeg, dAnd, dOr, dNot, dIf, dCh, dCh3, dU, dTup, dLst, dFld, dIsi, dIl, dIe, dIr1, dIr2, dIv1, dgN, dgT, putAll, dFor, dPar2, dPar3, dSetT, dLc, dYes, dSl, dNo, dSome, dRev, dNev, dSset, dCount, dIndex, dLrg1, dLrg2, dTwo, un_non, un_int, un_bl, un_str, un_lst, un_tup, un_obj, un_dct, un_scr, un_olst, un_oll, un_oobj, un_mv, un_m, un_p, pl_non, pl_int, pl_bl, pl_str, pl_lst, pl_tup, pl_obj, pl_dct, pl_scr, pl_m, pl_p, fzm_non, fzm_int, fzm_bl, fzm_lst, fzm_tup, fzm_obj, fzm_scr, fzm_olst, fzm_oll, fzm_oobj, fzm_m, frz_non, frz_int, frz_bl, frz_str, frz_lst, frz_tup, frz_obj, frz_dct, frz_scr, frz_olst, frz_oll, frz_m, fz_no, fz_tr, see_no, see_tr, asB_bl, asI_int, asgD_non, asgD_int, asgD_bl, asgD_lst, asgD_tup, asgD_obj, asgD_mv, asgD_m, it_lst, it_olst, it_scr, li_lst, li_olst, pit_lst, pit_scr, sz_lst, sz_olst, sz_oll, sz_scr, sz_tup, ad_int, ad_ll, ad_oo, ad_lo, ad_ol, mu_int, mu_l, mu_o, gI_int, gI0_int, gI2_int, ii_eqv, co_int, co_bl, co_non, co_row, co_rowO, co_nil, co_nilO, co_ps, co_p, co_p2, co_rows, ev_ll, ev_ol, ev_lo, ev_oo, ev_ln, ev_lno, ev_on, ev_ono, in_ps, in_row, gEq, gNe, gIn, gNotIn, g1, g2, gLen, gList, δof, List.getElem?_cons_zero, List.getElem?_cons_succ, List.getElem?_nil, List.set_cons_zero, List.set_cons_succ, List.map_cons, List.map_nil, List.length_cons, List.length_nil, List.replicate_succ, List.replicate_zero, List.cons_append, List.nil_append, Option.bind_some, Option.bind_none, List.all_cons, List.all_nil, List.append_nil, Nat.reduceAdd, Nat.reduceSub, true_and, and_true, Bool.and_true, Bool.true_and, dCallX, dMethX, dCallV, dCallVX, dRaiseC, dDct, gd_un g, gd_pl g, gd_frz g, decide_true]
    refine ⟨by decide, .inr (.inl ⟨d, .lst [], rfl, ⟨g, rfl⟩, ?_, h⟩)⟩
    rw [hd]
    rfl
  · refine lt_t (by omega) ?_
    simp only [m3, mK, dSeq, dIfS, dT, dTn, dTa, dTo, dOp, dVar, dC, dFz_eq, dCB, dCons, dNil, dCall, dCallB, dMeth, dMethB, dSet, dApp, dExt, dRet, dRetM, dNx, dDrop, dNeg, dAnd, dOr, dNot, dIf, dCh, dCh3, dU, dTup, dLst, dFld, dIsi, dIl, dIe, dIr1, dIr2, dIv1, dgN, dgT, putAll, dFor, dPar2, dPar3, dSetT, dLc, dYes, dSl, dNo, dSome, dRev, dNev, dSset, dCount, dIndex, dLrg1, dLrg2, dTwo, un_non, un_int, un_bl, un_str, un_lst, un_tup, un_obj, un_dct, un_scr, un_olst, un_oll, un_oobj, un_mv, un_m, un_p, pl_non, pl_int, pl_bl, pl_str, pl_lst, pl_tup, pl_obj, pl_dct, pl_scr, pl_m, pl_p, fzm_non, fzm_int, fzm_bl, fzm_lst, fzm_tup, fzm_obj, fzm_scr, fzm_olst, fzm_oll, fzm_oobj, fzm_m, frz_non, frz_int, frz_bl, frz_str, frz_lst, frz_tup, frz_obj, frz_dct, frz_scr, frz_olst, frz_oll, frz_m, fz_no, fz_tr, see_no, see_tr, asB_bl, asI_int, asgD_non, asgD_int, asgD_bl, asgD_lst, asgD_tup, asgD_obj, asgD_mv, asgD_m, it_lst, it_olst, it_scr, li_lst, li_olst, pit_lst, pit_scr, sz_lst, sz_olst, sz_oll, sz_scr, sz_tup, ad_int, ad_ll, ad_oo, ad_lo, ad_ol, mu_int, mu_l, mu_o, gI_int, gI0_int, gI2_int, ii_eqv, co_int, co_bl, co_non, co_row, co_rowO, co_nil, co_nilO, co_ps, co_p, co_p2, co_rows, ev_ll, ev_ol, ev_lo, ev_oo, ev_ln, ev_lno, ev_on, ev_ono, in_ps, in_row, gEq, gNe, gIn, gNotIn, g1, g2, gLen, gList, δof, List.getElem?_cons_zero, List.getElem?_cons_succ, List.getElem?_nil, List.set_cons_zero, List.set_cons_succ, List.map_cons, List.map_nil, List.length_cons, List.length_nil, List.replicate_succ, List.replicate_zero, List.cons_append, List.nil_append, Option.bind_some, Option.bind_none, List.all_cons, List.all_nil, List.append_nil, Nat.reduceAdd, Nat.reduceSub, true_and, and_true, Bool.and_true, Bool.true_and, dCallX, dMethX, dCallV, dCallVX, dRaiseC, dDct, gd_un g, gd_pl g, gd_frz g]
    show G_Minds_init K _ _ _
    rcases hd with hd | ⟨es, rfl, hd⟩
    · exact .inr (.inl ⟨.int 3, d, rfl, ⟨rfl, g⟩, by rw [hd, Bool.and_false], h⟩)
    · exact .inr (.inr ⟨3, es, rfl, g, by decide, hd, h⟩)
  · refine lt_f (by omega) ?_
    by_cases c1 : door < 10
    · refine lt_t c1 ?_
      have bad : ∀ {a b : D}, (a = d ∧ b = .lst [.int 0]) ∨ (a = .lst [.int 0] ∧ b = d) → (a.gd = true ∧ b.gd = true) ∧ (rowB a && rowB b) = false := fun z => by
        rcases z with ⟨rfl, rfl⟩ | ⟨rfl, rfl⟩
        · exact ⟨⟨g, rfl⟩, by rw [hd, Bool.false_and]⟩
        · exact ⟨⟨rfl, g⟩, by rw [hd, Bool.and_false]⟩
      rcases (by omega : door = 2 ∨ door = 3 ∨ door = 4 ∨ door = 5 ∨ door = 6 ∨ door = 7 ∨ door = 8 ∨ door = 9) with rfl | rfl | rfl | rfl | rfl | rfl | rfl | rfl
      · simp only [m3, mK, dSeq, dIfS, dT, dTn, dTa, dTo, dOp, dVar, dC, dFz_eq, dCB, dCons, dNil, dCall, dCallB, dMeth, dMethB, dSet, dApp, dExt, dRet, dRetM, dNx, dDrop, dNeg, dAnd, dOr, dNot, dIf, dCh, dCh3, dU, dTup, dLst, dFld, dIsi, dIl, dIe, dIr1, dIr2, dIv1, dgN, dgT, putAll, dFor, dPar2, dPar3, dSetT, dLc, dYes, dSl, dNo, dSome, dRev, dNev, dSset, dCount, dIndex, dLrg1, dLrg2, dTwo, un_non, un_int, un_bl, un_str, un_lst, un_tup, un_obj, un_dct, un_scr, un_olst, un_oll, un_oobj, un_mv, un_m, un_p, pl_non, pl_int, pl_bl, pl_str, pl_lst, pl_tup, pl_obj, pl_dct, pl_scr, pl_m, pl_p, fzm_non, fzm_int, fzm_bl, fzm_lst, fzm_tup, fzm_obj, fzm_scr, fzm_olst, fzm_oll, fzm_oobj, fzm_m, frz_non, frz_int, frz_bl, frz_str, frz_lst, frz_tup, frz_obj, frz_dct, frz_scr, frz_olst, frz_oll, frz_m, fz_no, fz_tr, see_no, see_tr, asB_bl, asI_int, asgD_non, asgD_int, asgD_bl, asgD_lst, asgD_tup, asgD_obj, asgD_mv, asgD_m, it_lst, it_olst, it_scr, li_lst, li_olst, pit_lst, pit_scr, sz_lst, sz_olst, sz_oll, sz_scr, sz_tup, ad_int, ad_ll, ad_oo, ad_lo, ad_ol, mu_int, mu_l, mu_o, gI_int, gI0_int, gI2_int, ii_eqv, co_int, co_bl, co_non, co_row, co_rowO, co_nil, co_nilO, co_ps, co_p, co_p2, co_rows, ev_ll, ev_ol, ev_lo, ev_oo, ev_ln, ev_lno, ev_on, ev_ono, in_ps, in_row, gEq, gNe, gIn, gNotIn, g1, g2, gLen, gList, δof, List.getElem?_cons_zero, List.getElem?_cons_succ, List.getElem?_nil, List.set_cons_zero, List.set_cons_succ, List.map_cons, List.map_nil, List.length_cons, List.length_nil, List.replicate_succ, List.replicate_zero, List.cons_append, List.nil_append, Option.bind_some, Option.bind_none, List.all_cons, List.all_nil, List.append_nil, Nat.reduceAdd, Nat.reduceSub, true_and, and_true, Bool.and_true, Bool.true_and, dCallX, dMethX, dCallV, dCallVX, dRaiseC, dDct, gd_un g, gd_pl g, gd_frz g]
        refine ⟨⟨by decide, by decide⟩, by decide, by decide, by decide, by decide, by decide, by decide, ?_⟩
        refine ix_olst ⟨_, at_nat (i := 0) rfl, ?_⟩
        simp only [dSeq, dIfS, dT, dTn, dTa, dTo, dOp, dVar, dC, dFz_eq, dCB, dCons, dNil, dCall, dCallB, dMeth, dMethB, dSet, dApp, dExt, dRet, dRetM, dNx, dDrop, dNeg, dAnd, dOr, dNot, dIf, dCh, dCh3, dU, dTup, dLst, dFld, dIsi, dIl, dIe, dIr1, dIr2, dIv1, dgN, dgT, putAll, dFor, dPar2, dPar3, dSetT, dLc, dYes, dSl, dNo, dSome, dRev, dNev, dSset, dCount, dIndex, dLrg1, dLrg2, dTwo, un_non, un_int, un_bl, un_str, un_lst, un_tup, un_obj, un_dct, un_scr, un_olst, un_oll, un_oobj, un_mv, un_m, un_p, pl_non, pl_int, pl_bl, pl_str, pl_lst, pl_tup, pl_obj, pl_dct, pl_scr, pl_m, pl_p, fzm_non, fzm_int, fzm_bl, fzm_lst, fzm_tup, fzm_obj, fzm_scr, fzm_olst, fzm_oll, fzm_oobj, fzm_m, frz_non, frz_int, frz_bl, frz_str, frz_lst, frz_tup, frz_obj, frz_dct, frz_scr, frz_olst, frz_oll, frz_m, fz_no, fz_tr, see_no, see_tr, asB_bl, asI_int, asgD_non, asgD_int, asgD_bl, asgD_lst, asgD_tup, asgD_obj, asgD_mv, asgD_m, it_lst, it_olst, it_scr, li_lst, li_olst, pit_lst, pit_scr, sz_lst, sz_olst, sz_oll, sz_scr, sz_tup, ad_int, ad_ll, ad_oo, ad_lo, ad_ol, mu_int, mu_l, mu_o, gI_int, gI0_int, gI2_int, ii_eqv, co_int, co_bl, co_non, co_row, co_rowO, co_nil, co_nilO, co_ps, co_p, co_p2, co_rows, ev_ll, ev_ol, ev_lo, ev_oo, ev_ln, ev_lno, ev_on, ev_ono, in_ps, in_row, gEq, gNe, gIn, gNotIn, g1, g2, gLen, gList, δof, List.getElem?_cons_zero, List.getElem?_cons_succ, List.getElem?_nil, List.set_cons_zero, List.set_cons_succ, List.map_cons, List.map_nil, List.length_cons, List.length_nil, List.replicate_succ, List.replicate_zero, List.cons_append, List.nil_append, Option.bind_some, Option.bind_none, List.all_cons, List.all_nil, List.append_nil, Nat.reduceAdd, Nat.reduceSub, true_and, and_true, Bool.and_true, Bool.true_and, dCallX, dMethX, dCallV, dCallVX, dRaiseC, dDct, gd_un g, gd_pl g, gd_frz g]
        refine ⟨rfl, by decide, ?_⟩
        refine ix_olst ⟨_, at_nat (i := 0) rfl, ?_⟩
        refine ⟨_, _, rfl, (.inl ⟨rfl, rfl⟩), ?_⟩
        refine ix_lst ⟨_, at_zero, ?_⟩
        refine ix_lst ⟨_, at_nat (i := 1) rfl, ?_⟩
        simp only [dSeq, dIfS, dT, dTn, dTa, dTo, dOp, dVar, dC, dFz_eq, dCB, dCons, dNil, dCall, dCallB, dMeth, dMethB, dSet, dApp, dExt, dRet, dRetM, dNx, dDrop, dNeg, dAnd, dOr, dNot, dIf, dCh, dCh3, dU, dTup, dLst, dFld, dIsi, dIl, dIe, dIr1, dIr2, dIv1, dgN, dgT, putAll, dFor, dPar2, dPar3, dSetT, dLc, dYes, dSl, dNo, dSome, dRev, dNev, dSset, dCount, dIndex, dLrg1, dLrg2, dTwo, un_non, un_int, un_bl, un_str, un_lst, un_tup, un_obj, un_dct, un_scr, un_olst, un_oll, un_oobj, un_mv, un_m, un_p, pl_non, pl_int, pl_bl, pl_str, pl_lst, pl_tup, pl_obj, pl_dct, pl_scr, pl_m, pl_p, fzm_non, fzm_int, fzm_bl, fzm_lst, fzm_tup, fzm_obj, fzm_scr, fzm_olst, fzm_oll, fzm_oobj, fzm_m, frz_non, frz_int, frz_bl, frz_str, frz_lst, frz_tup, frz_obj, frz_dct, frz_scr, frz_olst, frz_oll, frz_m, fz_no, fz_tr, see_no, see_tr, asB_bl, asI_int, asgD_non, asgD_int, asgD_bl, asgD_lst, asgD_tup, asgD_obj, asgD_mv, asgD_m, it_lst, it_olst, it_scr, li_lst, li_olst, pit_lst, pit_scr, sz_lst, sz_olst, sz_oll, sz_scr, sz_tup, ad_int, ad_ll, ad_oo, ad_lo, ad_ol, mu_int, mu_l, mu_o, gI_int, gI0_int, gI2_int, ii_eqv, co_int, co_bl, co_non, co_row, co_rowO, co_nil, co_nilO, co_ps, co_p, co_p2, co_rows, ev_ll, ev_ol, ev_lo, ev_oo, ev_ln, ev_lno, ev_on, ev_ono, in_ps, in_row, gEq, gNe, gIn, gNotIn, g1, g2, gLen, gList, δof, List.getElem?_cons_zero, List.getElem?_cons_succ, List.getElem?_nil, List.set_cons_zero, List.set_cons_succ, List.map_cons, List.map_nil, List.length_cons, List.length_nil, List.replicate_succ, List.replicate_zero, List.cons_append, List.nil_append, Option.bind_some, Option.bind_none, List.all_cons, List.all_nil, List.append_nil, Nat.reduceAdd, Nat.reduceSub, true_and, and_true, Bool.and_true, Bool.true_and, dCallX, dMethX, dCallV, dCallVX, dRaiseC, dDct, gd_un g, gd_pl g, gd_frz g]
        obtain ⟨z1, z2⟩ := bad (.inl ⟨rfl, rfl⟩)
        exact ⟨_, _, rfl, z1, z2, h⟩
      · simp only [m3, mK, dSeq, dIfS, dT, dTn, dTa, dTo, dOp, dVar, dC, dFz_eq, dCB, dCons, dNil, dCall, dCallB, dMeth, dMethB, dSet, dApp, dExt, dRet, dRetM, dNx, dDrop, dNeg, dAnd, dOr, dNot, dIf, dCh, dCh3, dU, dTup, dLst, dFld, dIsi, dIl, dIe, dIr1, dIr2, dIv1, dgN, dgT, putAll, dFor, dPar2, dPar3, dSetT, dLc, dYes, dSl, dNo, dSome, dRev, dNev, dSset, dCount, dIndex, dLrg1, dLrg2, dTwo, un_non, un_int, un_bl, un_str, un_lst, un_tup, un_obj, un_dct, un_scr, un_olst, un_oll, un_oobj, un_mv, un_m, un_p, pl_non, pl_int, pl_bl, pl_str, pl_lst, pl_tup, pl_obj, pl_dct, pl_scr, pl_m, pl_p, fzm_non, fzm_int, fzm_bl, fzm_lst, fzm_tup, fzm_obj, fzm_scr, fzm_olst, fzm_oll, fzm_oobj, fzm_m, frz_non, frz_int, frz_bl, frz_str, frz_lst, frz_tup, frz_obj, frz_dct, frz_scr, frz_olst, frz_oll, frz_m, fz_no, fz_tr, see_no, see_tr, asB_bl, asI_int, asgD_non, asgD_int, asgD_bl, asgD_lst, asgD_tup, asgD_obj, asgD_mv, asgD_m, it_lst, it_olst, it_scr, li_lst, li_olst, pit_lst, pit_scr, sz_lst, sz_olst, sz_oll, sz_scr, sz_tup, ad_int, ad_ll, ad_oo, ad_lo, ad_ol, mu_int, mu_l, mu_o, gI_int, gI0_int, gI2_int, ii_eqv, co_int, co_bl, co_non, co_row, co_rowO, co_nil, co_nilO, co_ps, co_p, co_p2, co_rows, ev_ll, ev_ol, ev_lo, ev_oo, ev_ln, ev_lno, ev_on, ev_ono, in_ps, in_row, gEq, gNe, gIn, gNotIn, g1, g2, gLen, gList, δof, List.getElem?_cons_zero, List.getElem?_cons_succ, List.getElem?_nil, List.set_cons_zero, List.set_cons_succ, List.map_cons, List.map_nil, List.length_cons, List.length_nil, List.replicate_succ, List.replicate_zero, List.cons_append, List.nil_append, Option.bind_some, Option.bind_none, List.all_cons, List.all_nil, List.append_nil, Nat.reduceAdd, Nat.reduceSub, true_and, and_true, Bool.and_true, Bool.true_and, dCallX, dMethX, dCallV, dCallVX, dRaiseC, dDct, gd_un g, gd_pl g, gd_frz g]
        refine ⟨⟨by decide, by decide⟩, by decide, by decide, by decide, by decide, by decide, by decide, ?_⟩
        refine ix_olst ⟨_, at_nat (i := 1) rfl, ?_⟩
        simp only [dSeq, dIfS, dT, dTn, dTa, dTo, dOp, dVar, dC, dFz_eq, dCB, dCons, dNil, dCall, dCallB, dMeth, dMethB, dSet, dApp, dExt, dRet, dRetM, dNx, dDrop, dNeg, dAnd, dOr, dNot, dIf, dCh, dCh3, dU, dTup, dLst, dFld, dIsi, dIl, dIe, dIr1, dIr2, dIv1, dgN, dgT, putAll, dFor, dPar2, dPar3, dSetT, dLc, dYes, dSl, dNo, dSome, dRev, dNev, dSset, dCount, dIndex, dLrg1, dLrg2, dTwo, un_non, un_int, un_bl, un_str, un_lst, un_tup, un_obj, un_dct, un_scr, un_olst, un_oll, un_oobj, un_mv, un_m, un_p, pl_non, pl_int, pl_bl, pl_str, pl_lst, pl_tup, pl_obj, pl_dct, pl_scr, pl_m, pl_p, fzm_non, fzm_int, fzm_bl, fzm_lst, fzm_tup, fzm_obj, fzm_scr, fzm_olst, fzm_oll, fzm_oobj, fzm_m, frz_non, frz_int, frz_bl, frz_str, frz_lst, frz_tup, frz_obj, frz_dct, frz_scr, frz_olst, frz_oll, frz_m, fz_no, fz_tr, see_no, see_tr, asB_bl, asI_int, asgD_non, asgD_int, asgD_bl, asgD_lst, asgD_tup, asgD_obj, asgD_mv, asgD_m, it_lst, it_olst, it_scr, li_lst, li_olst, pit_lst, pit_scr, sz_lst, sz_olst, sz_oll, sz_scr, sz_tup, ad_int, ad_ll, ad_oo, ad_lo, ad_ol, mu_int, mu_l, mu_o, gI_int, gI0_int, gI2_int, ii_eqv, co_int, co_bl, co_non, co_row, co_rowO, co_nil, co_nilO, co_ps, co_p, co_p2, co_rows, ev_ll, ev_ol, ev_lo, ev_oo, ev_ln, ev_lno, ev_on, ev_ono, in_ps, in_row, gEq, gNe, gIn, gNotIn, g1, g2, gLen, gList, δof, List.getElem?_cons_zero, List.getElem?_cons_succ, List.getElem?_nil, List.set_cons_zero, List.set_cons_succ, List.map_cons, List.map_nil, List.length_cons, List.length_nil, List.replicate_succ, List.replicate_zero, List.cons_append, List.nil_append, Option.bind_some, Option.bind_none, List.all_cons, List.all_nil, List.append_nil, Nat.reduceAdd, Nat.reduceSub, true_and, and_true, Bool.and_true, Bool.true_and, dCallX, dMethX, dCallV, dCallVX, dRaiseC, dDct, gd_un g, gd_pl g, gd_frz g]
        refine ⟨rfl, by decide, ?_⟩
        refine ix_olst ⟨_, at_nat (i := 0) rfl, ?_⟩
        refine ⟨_, _, rfl, (.inl ⟨rfl, rfl⟩), ?_⟩
        refine ix_lst ⟨_, at_zero, ?_⟩
        refine ix_lst ⟨_, at_nat (i := 1) rfl, ?_⟩
        simp only [dSeq, dIfS, dT, dTn, dTa, dTo, dOp, dVar, dC, dFz_eq, dCB, dCons, dNil, dCall, dCallB, dMeth, dMethB, dSet, dApp, dExt, dRet, dRetM, dNx, dDrop, dNeg, dAnd, dOr, dNot, dIf, dCh, dCh3, dU, dTup, dLst, dFld, dIsi, dIl, dIe, dIr1, dIr2, dIv1, dgN, dgT, putAll, dFor, dPar2, dPar3, dSetT, dLc, dYes, dSl, dNo, dSome, dRev, dNev, dSset, dCount, dIndex, dLrg1, dLrg2, dTwo, un_non, un_int, un_bl, un_str, un_lst, un_tup, un_obj, un_dct, un_scr, un_olst, un_oll, un_oobj, un_mv, un_m, un_p, pl_non, pl_int, pl_bl, pl_str, pl_lst, pl_tup, pl_obj, pl_dct, pl_scr, pl_m, pl_p, fzm_non, fzm_int, fzm_bl, fzm_lst, fzm_tup, fzm_obj, fzm_scr, fzm_olst, fzm_oll, fzm_oobj, fzm_m, frz_non, frz_int, frz_bl, frz_str, frz_lst, frz_tup, frz_obj, frz_dct, frz_scr, frz_olst, frz_oll, frz_m, fz_no, fz_tr, see_no, see_tr, asB_bl, asI_int, asgD_non, asgD_int, asgD_bl, asgD_lst, asgD_tup, asgD_obj, asgD_mv, asgD_m, it_lst, it_olst, it_scr, li_lst, li_olst, pit_lst, pit_scr, sz_lst, sz_olst, sz_oll, sz_scr, sz_tup, ad_int, ad_ll, ad_oo, ad_lo, ad_ol, mu_int, mu_l, mu_o, gI_int, gI0_int, gI2_int, ii_eqv, co_int, co_bl, co_non, co_row, co_rowO, co_nil, co_nilO, co_ps, co_p, co_p2, co_rows, ev_ll, ev_ol, ev_lo, ev_oo, ev_ln, ev_lno, ev_on, ev_ono, in_ps, in_row, gEq, gNe, gIn, gNotIn, g1, g2, gLen, gList, δof, List.getElem?_cons_zero, List.getElem?_cons_succ, List.getElem?_nil, List.set_cons_zero, List.set_cons_succ, List.map_cons, List.map_nil, List.length_cons, List.length_nil, List.replicate_succ, List.replicate_zero, List.cons_append, List.nil_append, Option.bind_some, Option.bind_none, List.all_cons, List.all_nil, List.append_nil, Nat.reduceAdd, Nat.reduceSub, true_and, and_true, Bool.and_true, Bool.true_and, dCallX, dMethX, dCallV, dCallVX, dRaiseC, dDct, gd_un g, gd_pl g, gd_frz g]
        obtain ⟨z1, z2⟩ := bad (.inr ⟨rfl, rfl⟩)
        exact ⟨_, _, rfl, z1, z2, h⟩
      · simp only [m3, mK, dSeq, dIfS, dT, dTn, dTa, dTo, dOp, dVar, dC, dFz_eq, dCB, dCons, dNil, dCall, dCallB, dMeth, dMethB, dSet, dApp, dExt, dRet, dRetM, dNx, dDrop, dNeg, dAnd, dOr, dNot, dIf, dCh, dCh3, dU, dTup, dLst, dFld, dIsi, dIl, dIe, dIr1, dIr2, dIv1, dgN, dgT, putAll, dFor, dPar2, dPar3, dSetT, dLc, dYes, dSl, dNo, dSome, dRev, dNev, dSset, dCount, dIndex, dLrg1, dLrg2, dTwo, un_non, un_int, un_bl, un_str, un_lst, un_tup, un_obj, un_dct, un_scr, un_olst, un_oll, un_oobj, un_mv, un_m, un_p, pl_non, pl_int, pl_bl, pl_str, pl_lst, pl_tup, pl_obj, pl_dct, pl_scr, pl_m, pl_p, fzm_non, fzm_int, fzm_bl, fzm_lst, fzm_tup, fzm_obj, fzm_scr, fzm_olst, fzm_oll, fzm_oobj, fzm_m, frz_non, frz_int, frz_bl, frz_str, frz_lst, frz_tup, frz_obj, frz_dct, frz_scr, frz_olst, frz_oll, frz_m, fz_no, fz_tr, see_no, see_tr, asB_bl, asI_int, asgD_non, asgD_int, asgD_bl, asgD_lst, asgD_tup, asgD_obj, asgD_mv, asgD_m, it_lst, it_olst, it_scr, li_lst, li_olst, pit_lst, pit_scr, sz_lst, sz_olst, sz_oll, sz_scr, sz_tup, ad_int, ad_ll, ad_oo, ad_lo, ad_ol, mu_int, mu_l, mu_o, gI_int, gI0_int, gI2_int, ii_eqv, co_int, co_bl, co_non, co_row, co_rowO, co_nil, co_nilO, co_ps, co_p, co_p2, co_rows, ev_ll, ev_ol, ev_lo, ev_oo, ev_ln, ev_lno, ev_on, ev_ono, in_ps, in_row, gEq, gNe, gIn, gNotIn, g1, g2, gLen, gList, δof, List.getElem?_cons_zero, List.getElem?_cons_succ, List.getElem?_nil, List.set_cons_zero, List.set_cons_succ, List.map_cons, List.map_nil, List.length_cons, List.length_nil, List.replicate_succ, List.replicate_zero, List.cons_append, List.nil_append, Option.bind_some, Option.bind_none, List.all_cons, List.all_nil, List.append_nil, Nat.reduceAdd, Nat.reduceSub, true_and, and_true, Bool.and_true, Bool.true_and, dCallX, dMethX, dCallV, dCallVX, dRaiseC, dDct, gd_un g, gd_pl g, gd_frz g]
        refine ⟨⟨by decide, by decide⟩, by decide, by decide, by decide, by decide, by decide, by decide, ?_⟩
        refine ix_olst ⟨_, at_nat (i := 0) rfl, ?_⟩
        simp only [dSeq, dIfS, dT, dTn, dTa, dTo, dOp, dVar, dC, dFz_eq, dCB, dCons, dNil, dCall, dCallB, dMeth, dMethB, dSet, dApp, dExt, dRet, dRetM, dNx, dDrop, dNeg, dAnd, dOr, dNot, dIf, dCh, dCh3, dU, dTup, dLst, dFld, dIsi, dIl, dIe, dIr1, dIr2, dIv1, dgN, dgT, putAll, dFor, dPar2, dPar3, dSetT, dLc, dYes, dSl, dNo, dSome, dRev, dNev, dSset, dCount, dIndex, dLrg1, dLrg2, dTwo, un_non, un_int, un_bl, un_str, un_lst, un_tup, un_obj, un_dct, un_scr, un_olst, un_oll, un_oobj, un_mv, un_m, un_p, pl_non, pl_int, pl_bl, pl_str, pl_lst, pl_tup, pl_obj, pl_dct, pl_scr, pl_m, pl_p, fzm_non, fzm_int, fzm_bl, fzm_lst, fzm_tup, fzm_obj, fzm_scr, fzm_olst, fzm_oll, fzm_oobj, fzm_m, frz_non, frz_int, frz_bl, frz_str, frz_lst, frz_tup, frz_obj, frz_dct, frz_scr, frz_olst, frz_oll, frz_m, fz_no, fz_tr, see_no, see_tr, asB_bl, asI_int, asgD_non, asgD_int, asgD_bl, asgD_lst, asgD_tup, asgD_obj, asgD_mv, asgD_m, it_lst, it_olst, it_scr, li_lst, li_olst, pit_lst, pit_scr, sz_lst, sz_olst, sz_oll, sz_scr, sz_tup, ad_int, ad_ll, ad_oo, ad_lo, ad_ol, mu_int, mu_l, mu_o, gI_int, gI0_int, gI2_int, ii_eqv, co_int, co_bl, co_non, co_row, co_rowO, co_nil, co_nilO, co_ps, co_p, co_p2, co_rows, ev_ll, ev_ol, ev_lo, ev_oo, ev_ln, ev_lno, ev_on, ev_ono, in_ps, in_row, gEq, gNe, gIn, gNotIn, g1, g2, gLen, gList, δof, List.getElem?_cons_zero, List.getElem?_cons_succ, List.getElem?_nil, List.set_cons_zero, List.set_cons_succ, List.map_cons, List.map_nil, List.length_cons, List.length_nil, List.replicate_succ, List.replicate_zero, List.cons_append, List.nil_append, Option.bind_some, Option.bind_none, List.all_cons, List.all_nil, List.append_nil, Nat.reduceAdd, Nat.reduceSub, true_and, and_true, Bool.and_true, Bool.true_and, dCallX, dMethX, dCallV, dCallVX, dRaiseC, dDct, gd_un g, gd_pl g, gd_frz g]
        refine ⟨rfl, by decide, ?_⟩
        refine ix_olst ⟨_, at_nat (i := 1) rfl, ?_⟩
        refine ⟨_, _, rfl, (.inr (.inl ⟨rfl, rfl⟩)), ?_⟩
        refine ix_lst ⟨_, at_zero, ?_⟩
        refine ix_lst ⟨_, at_nat (i := 1) rfl, ?_⟩
        simp only [dSeq, dIfS, dT, dTn, dTa, dTo, dOp, dVar, dC, dFz_eq, dCB, dCons, dNil, dCall, dCallB, dMeth, dMethB, dSet, dApp, dExt, dRet, dRetM, dNx, dDrop, dNeg, dAnd, dOr, dNot, dIf, dCh, dCh3, dU, dTup, dLst, dFld, dIsi, dIl, dIe, dIr1, dIr2, dIv1, dgN, dgT, putAll, dFor, dPar2, dPar3, dSetT, dLc, dYes, dSl, dNo, dSome, dRev, dNev, dSset, dCount, dIndex, dLrg1, dLrg2, dTwo, un_non, un_int, un_bl, un_str, un_lst, un_tup, un_obj, un_dct, un_scr, un_olst, un_oll, un_oobj, un_mv, un_m, un_p, pl_non, pl_int, pl_bl, pl_str, pl_lst, pl_tup, pl_obj, pl_dct, pl_scr, pl_m, pl_p, fzm_non, fzm_int, fzm_bl, fzm_lst, fzm_tup, fzm_obj, fzm_scr, fzm_olst, fzm_oll, fzm_oobj, fzm_m, frz_non, frz_int, frz_bl, frz_str, frz_lst, frz_tup, frz_obj, frz_dct, frz_scr, frz_olst, frz_oll, frz_m, fz_no, fz_tr, see_no, see_tr, asB_bl, asI_int, asgD_non, asgD_int, asgD_bl, asgD_lst, asgD_tup, asgD_obj, asgD_mv, asgD_m, it_lst, it_olst, it_scr, li_lst, li_olst, pit_lst, pit_scr, sz_lst, sz_olst, sz_oll, sz_scr, sz_tup, ad_int, ad_ll, ad_oo, ad_lo, ad_ol, mu_int, mu_l, mu_o, gI_int, gI0_int, gI2_int, ii_eqv, co_int, co_bl, co_non, co_row, co_rowO, co_nil, co_nilO, co_ps, co_p, co_p2, co_rows, ev_ll, ev_ol, ev_lo, ev_oo, ev_ln, ev_lno, ev_on, ev_ono, in_ps, in_row, gEq, gNe, gIn, gNotIn, g1, g2, gLen, gList, δof, List.getElem?_cons_zero, List.getElem?_cons_succ, List.getElem?_nil, List.set_cons_zero, List.set_cons_succ, List.map_cons, List.map_nil, List.length_cons, List.length_nil, List.replicate_succ, List.replicate_zero, List.cons_append, List.nil_append, Option.bind_some, Option.bind_none, List.all_cons, List.all_nil, List.append_nil, Nat.reduceAdd, Nat.reduceSub, true_and, and_true, Bool.and_true, Bool.true_and, dCallX, dMethX, dCallV, dCallVX, dRaiseC, dDct, gd_un g, gd_pl g, gd_frz g]
        obtain ⟨z1, z2⟩ := bad (.inl ⟨rfl, rfl⟩)
        exact ⟨_, _, rfl, z1, z2, h⟩
      · simp only [m3, mK, dSeq, dIfS, dT, dTn, dTa, dTo, dOp, dVar, dC, dFz_eq, dCB, dCons, dNil, dCall, dCallB, dMeth, dMethB, dSet, dApp, dExt, dRet, dRetM, dNx, dDrop, dNeg, dAnd, dOr, dNot, dIf, dCh, dCh3, dU, dTup, dLst, dFld, dIsi, dIl, dIe, dIr1, dIr2, dIv1, dgN, dgT, putAll, dFor, dPar2, dPar3, dSetT, dLc, dYes, dSl, dNo, dSome, dRev, dNev, dSset, dCount, dIndex, dLrg1, dLrg2, dTwo, un_non, un_int, un_bl, un_str, un_lst, un_tup, un_obj, un_dct, un_scr, un_olst, un_oll, un_oobj, un_mv, un_m, un_p, pl_non, pl_int, pl_bl, pl_str, pl_lst, pl_tup, pl_obj, pl_dct, pl_scr, pl_m, pl_p, fzm_non, fzm_int, fzm_bl, fzm_lst, fzm_tup, fzm_obj, fzm_scr, fzm_olst, fzm_oll, fzm_oobj, fzm_m, frz_non, frz_int, frz_bl, frz_str, frz_lst, frz_tup, frz_obj, frz_dct, frz_scr, frz_olst, frz_oll, frz_m, fz_no, fz_tr, see_no, see_tr, asB_bl, asI_int, asgD_non, asgD_int, asgD_bl, asgD_lst, asgD_tup, asgD_obj, asgD_mv, asgD_m, it_lst, it_olst, it_scr, li_lst, li_olst, pit_lst, pit_scr, sz_lst, sz_olst, sz_oll, sz_scr, sz_tup, ad_int, ad_ll, ad_oo, ad_lo, ad_ol, mu_int, mu_l, mu_o, gI_int, gI0_int, gI2_int, ii_eqv, co_int, co_bl, co_non, co_row, co_rowO, co_nil, co_nilO, co_ps, co_p, co_p2, co_rows, ev_ll, ev_ol, ev_lo, ev_oo, ev_ln, ev_lno, ev_on, ev_ono, in_ps, in_row, gEq, gNe, gIn, gNotIn, g1, g2, gLen, gList, δof, List.getElem?_cons_zero, List.getElem?_cons_succ, List.getElem?_nil, List.set_cons_zero, List.set_cons_succ, List.map_cons, List.map_nil, List.length_cons, List.length_nil, List.replicate_succ, List.replicate_zero, List.cons_append, List.nil_append, Option.bind_some, Option.bind_none, List.all_cons, List.all_nil, List.append_nil, Nat.reduceAdd, Nat.reduceSub, true_and, and_true, Bool.and_true, Bool.true_and, dCallX, dMethX, dCallV, dCallVX, dRaiseC, dDct, gd_un g, gd_pl g, gd_frz g]
        refine ⟨⟨by decide, by decide⟩, by decide, by decide, by decide, by decide, by decide, by decide, ?_⟩
        refine ix_olst ⟨_, at_nat (i := 1) rfl, ?_⟩
        simp only [dSeq, dIfS, dT, dTn, dTa, dTo, dOp, dVar, dC, dFz_eq, dCB, dCons, dNil, dCall, dCallB, dMeth, dMethB, dSet, dApp, dExt, dRet, dRetM, dNx, dDrop, dNeg, dAnd, dOr, dNot, dIf, dCh, dCh3, dU, dTup, dLst, dFld, dIsi, dIl, dIe, dIr1, dIr2, dIv1, dgN, dgT, putAll, dFor, dPar2, dPar3, dSetT, dLc, dYes, dSl, dNo, dSome, dRev, dNev, dSset, dCount, dIndex, dLrg1, dLrg2, dTwo, un_non, un_int, un_bl, un_str, un_lst, un_tup, un_obj, un_dct, un_scr, un_olst, un_oll, un_oobj, un_mv, un_m, un_p, pl_non, pl_int, pl_bl, pl_str, pl_lst, pl_tup, pl_obj, pl_dct, pl_scr, pl_m, pl_p, fzm_non, fzm_int, fzm_bl, fzm_lst, fzm_tup, fzm_obj, fzm_scr, fzm_olst, fzm_oll, fzm_oobj, fzm_m, frz_non, frz_int, frz_bl, frz_str, frz_lst, frz_tup, frz_obj, frz_dct, frz_scr, frz_olst, frz_oll, frz_m, fz_no, fz_tr, see_no, see_tr, asB_bl, asI_int, asgD_non, asgD_int, asgD_bl, asgD_lst, asgD_tup, asgD_obj, asgD_mv, asgD_m, it_lst, it_olst, it_scr, li_lst, li_olst, pit_lst, pit_scr, sz_lst, sz_olst, sz_oll, sz_scr, sz_tup, ad_int, ad_ll, ad_oo, ad_lo, ad_ol, mu_int, mu_l, mu_o, gI_int, gI0_int, gI2_int, ii_eqv, co_int, co_bl, co_non, co_row, co_rowO, co_nil, co_nilO, co_ps, co_p, co_p2, co_rows, ev_ll, ev_ol, ev_lo, ev_oo, ev_ln, ev_lno, ev_on, ev_ono, in_ps, in_row, gEq, gNe, gIn, gNotIn, g1, g2, gLen, gList, δof, List.getElem?_cons_zero, List.getElem?_cons_succ, List.getElem?_nil, List.set_cons_zero, List.set_cons_succ, List.map_cons, List.map_nil, List.length_cons, List.length_nil, List.replicate_succ, List.replicate_zero, List.cons_append, List.nil_append, Option.bind_some, Option.bind_none, List.all_cons, List.all_nil, List.append_nil, Nat.reduceAdd, Nat.reduceSub, true_and, and_true, Bool.and_true, Bool.true_and, dCallX, dMethX, dCallV, dCallVX, dRaiseC, dDct, gd_un g, gd_pl g, gd_frz g]
        refine ⟨rfl, by decide, ?_⟩
        refine ix_olst ⟨_, at_nat (i := 1) rfl, ?_⟩
        refine ⟨_, _, rfl, (.inr (.inl ⟨rfl, rfl⟩)), ?_⟩
        refine ix_lst ⟨_, at_zero, ?_⟩
        refine ix_lst ⟨_, at_nat (i := 1) rfl, ?_⟩
        simp only [dSeq, dIfS, dT, dTn, dTa, dTo, dOp, dVar, dC, dFz_eq, dCB, dCons, dNil, dCall, dCallB, dMeth, dMethB, dSet, dApp, dExt, dRet, dRetM, dNx, dDrop, dNeg, dAnd, dOr, dNot, dIf, dCh, dCh3, dU, dTup, dLst, dFld, dIsi, dIl, dIe, dIr1, dIr2, dIv1, dgN, dgT, putAll, dFor, dPar2, dPar3, dSetT, dLc, dYes, dSl, dNo, dSome, dRev, dNev, dSset, dCount, dIndex, dLrg1, dLrg2, dTwo, un_non, un_int, un_bl, un_str, un_lst, un_tup, un_obj, un_dct, un_scr, un_olst, un_oll, un_oobj, un_mv, un_m, un_p, pl_non, pl_int, pl_bl, pl_str, pl_lst, pl_tup, pl_obj, pl_dct, pl_scr, pl_m, pl_p, fzm_non, fzm_int, fzm_bl, fzm_lst, fzm_tup, fzm_obj, fzm_scr, fzm_olst, fzm_oll, fzm_oobj, fzm_m, frz_non, frz_int, frz_bl, frz_str, frz_lst, frz_tup, frz_obj, frz_dct, frz_scr, frz_olst, frz_oll, frz_m, fz_no, fz_tr, see_no, see_tr, asB_bl, asI_int, asgD_non, asgD_int, asgD_bl, asgD_lst, asgD_tup, asgD_obj, asgD_mv, asgD_m, it_lst, it_olst, it_scr, li_lst, li_olst, pit_lst, pit_scr, sz_lst, sz_olst, sz_oll, sz_scr, sz_tup, ad_int, ad_ll, ad_oo, ad_lo, ad_ol, mu_int, mu_l, mu_o, gI_int, gI0_int, gI2_int, ii_eqv, co_int, co_bl, co_non, co_row, co_rowO, co_nil, co_nilO, co_ps, co_p, co_p2, co_rows, ev_ll, ev_ol, ev_lo, ev_oo, ev_ln, ev_lno, ev_on, ev_ono, in_ps, in_row, gEq, gNe, gIn, gNotIn, g1, g2, gLen, gList, δof, List.getElem?_cons_zero, List.getElem?_cons_succ, List.getElem?_nil, List.set_cons_zero, List.set_cons_succ, List.map_cons, List.map_nil, List.length_cons, List.length_nil, List.replicate_succ, List.replicate_zero, List.cons_append, List.nil_append, Option.bind_some, Option.bind_none, List.all_cons, List.all_nil, List.append_nil, Nat.reduceAdd, Nat.reduceSub, true_and, and_true, Bool.and_true, Bool.true_and, dCallX, dMethX, dCallV, dCallVX, dRaiseC, dDct, gd_un g, gd_pl g, gd_frz g]
        obtain ⟨z1, z2⟩ := bad (.inr ⟨rfl, rfl⟩)
        exact ⟨_, _, rfl, z1, z2, h⟩
      · simp only [m3, mK, dSeq, dIfS, dT, dTn, dTa, dTo, dOp, dVar, dC, dFz_eq, dCB, dCons, dNil, dCall, dCallB, dMeth, dMethB, dSet, dApp, dExt, dRet, dRetM, dNx, dDrop, dNeg, dAnd, dOr, dNot, dIf, dCh, dCh3, dU, dTup, dLst, dFld, dIsi, dIl, dIe, dIr1, dIr2, dIv1, dgN, dgT, putAll, dFor, dPar2, dPar3, dSetT, dLc, dYes, dSl, dNo, dSome, dRev, dNev, dSset, dCount, dIndex, dLrg1, dLrg2, dTwo, un_non, un_int, un_bl, un_str, un_lst, un_tup, un_obj, un_dct, un_scr, un_olst, un_oll, un_oobj, un_mv, un_m, un_p, pl_non, pl_int, pl_bl, pl_str, pl_lst, pl_tup, pl_obj, pl_dct, pl_scr, pl_m, pl_p, fzm_non, fzm_int, fzm_bl, fzm_lst, fzm_tup, fzm_obj, fzm_scr, fzm_olst, fzm_oll, fzm_oobj, fzm_m, frz_non, frz_int, frz_bl, frz_str, frz_lst, frz_tup, frz_obj, frz_dct, frz_scr, frz_olst, frz_oll, frz_m, fz_no, fz_tr, see_no, see_tr, asB_bl, asI_int, asgD_non, asgD_int, asgD_bl, asgD_lst, asgD_tup, asgD_obj, asgD_mv, asgD_m, it_lst, it_olst, it_scr, li_lst, li_olst, pit_lst, pit_scr, sz_lst, sz_olst, sz_oll, sz_scr, sz_tup, ad_int, ad_ll, ad_oo, ad_lo, ad_ol, mu_int, mu_l, mu_o, gI_int, gI0_int, gI2_int, ii_eqv, co_int, co_bl, co_non, co_row, co_rowO, co_nil, co_nilO, co_ps, co_p, co_p2, co_rows, ev_ll, ev_ol, ev_lo, ev_oo, ev_ln, ev_lno, ev_on, ev_ono, in_ps, in_row, gEq, gNe, gIn, gNotIn, g1, g2, gLen, gList, δof, List.getElem?_cons_zero, List.getElem?_cons_succ, List.getElem?_nil, List.set_cons_zero, List.set_cons_succ, List.map_cons, List.map_nil, List.length_cons, List.length_nil, List.replicate_succ, List.replicate_zero, List.cons_append, List.nil_append, Option.bind_some, Option.bind_none, List.all_cons, List.all_nil, List.append_nil, Nat.reduceAdd, Nat.reduceSub, true_and, and_true, Bool.and_true, Bool.true_and, dCallX, dMethX, dCallV, dCallVX, dRaiseC, dDct, gd_un g, gd_pl g, gd_frz g]
        refine ⟨⟨by decide, by decide⟩, by decide, by decide, by decide, by decide, by decide, by decide, ?_⟩
        refine ix_olst ⟨_, at_nat (i := 0) rfl, ?_⟩
        simp only [dSeq, dIfS, dT, dTn, dTa, dTo, dOp, dVar, dC, dFz_eq, dCB, dCons, dNil, dCall, dCallB, dMeth, dMethB, dSet, dApp, dExt, dRet, dRetM, dNx, dDrop, dNeg, dAnd, dOr, dNot, dIf, dCh, dCh3, dU, dTup, dLst, dFld, dIsi, dIl, dIe, dIr1, dIr2, dIv1, dgN, dgT, putAll, dFor, dPar2, dPar3, dSetT, dLc, dYes, dSl, dNo, dSome, dRev, dNev, dSset, dCount, dIndex, dLrg1, dLrg2, dTwo, un_non, un_int, un_bl, un_str, un_lst, un_tup, un_obj, un_dct, un_scr, un_olst, un_oll, un_oobj, un_mv, un_m, un_p, pl_non, pl_int, pl_bl, pl_str, pl_lst, pl_tup, pl_obj, pl_dct, pl_scr, pl_m, pl_p, fzm_non, fzm_int, fzm_bl, fzm_lst, fzm_tup, fzm_obj, fzm_scr, fzm_olst, fzm_oll, fzm_oobj, fzm_m, frz_non, frz_int, frz_bl, frz_str, frz_lst, frz_tup, frz_obj, frz_dct, frz_scr, frz_olst, frz_oll, frz_m, fz_no, fz_tr, see_no, see_tr, asB_bl, asI_int, asgD_non, asgD_int, asgD_bl, asgD_lst, asgD_tup, asgD_obj, asgD_mv, asgD_m, it_lst, it_olst, it_scr, li_lst, li_olst, pit_lst, pit_scr, sz_lst, sz_olst, sz_oll, sz_scr, sz_tup, ad_int, ad_ll, ad_oo, ad_lo, ad_ol, mu_int, mu_l, mu_o, gI_int, gI0_int, gI2_int, ii_eqv, co_int, co_bl, co_non, co_row, co_rowO, co_nil, co_nilO, co_ps, co_p, co_p2, co_rows, ev_ll, ev_ol, ev_lo, ev_oo, ev_ln, ev_lno, ev_on, ev_ono, in_ps, in_row, gEq, gNe, gIn, gNotIn, g1, g2, gLen, gList, δof, List.getElem?_cons_zero, List.getElem?_cons_succ, List.getElem?_nil, List.set_cons_zero, List.set_cons_succ, List.map_cons, List.map_nil, List.length_cons, List.length_nil, List.replicate_succ, List.replicate_zero, List.cons_append, List.nil_append, Option.bind_some, Option.bind_none, List.all_cons, List.all_nil, List.append_nil, Nat.reduceAdd, Nat.reduceSub, true_and, and_true, Bool.and_true, Bool.true_and, dCallX, dMethX, dCallV, dCallVX, dRaiseC, dDct, gd_un g, gd_pl g, gd_frz g]
        refine ⟨rfl, by decide, ?_⟩
        refine ix_olst ⟨_, at_nat (i := 2) rfl, ?_⟩
        refine ⟨_, _, rfl, (.inr (.inr (.inl ⟨rfl, rfl⟩))), ?_⟩
        refine ix_lst ⟨_, at_zero, ?_⟩
        refine ix_lst ⟨_, at_nat (i := 1) rfl, ?_⟩
        simp only [dSeq, dIfS, dT, dTn, dTa, dTo, dOp, dVar, dC, dFz_eq, dCB, dCons, dNil, dCall, dCallB, dMeth, dMethB, dSet, dApp, dExt, dRet, dRetM, dNx, dDrop, dNeg, dAnd, dOr, dNot, dIf, dCh, dCh3, dU, dTup, dLst, dFld, dIsi, dIl, dIe, dIr1, dIr2, dIv1, dgN, dgT, putAll, dFor, dPar2, dPar3, dSetT, dLc, dYes, dSl, dNo, dSome, dRev, dNev, dSset, dCount, dIndex, dLrg1, dLrg2, dTwo, un_non, un_int, un_bl, un_str, un_lst, un_tup, un_obj, un_dct, un_scr, un_olst, un_oll, un_oobj, un_mv, un_m, un_p, pl_non, pl_int, pl_bl, pl_str, pl_lst, pl_tup, pl_obj, pl_dct, pl_scr, pl_m, pl_p, fzm_non, fzm_int, fzm_bl, fzm_lst, fzm_tup, fzm_obj, fzm_scr, fzm_olst, fzm_oll, fzm_oobj, fzm_m, frz_non, frz_int, frz_bl, frz_str, frz_lst, frz_tup, frz_obj, frz_dct, frz_scr, frz_olst, frz_oll, frz_m, fz_no, fz_tr, see_no, see_tr, asB_bl, asI_int, asgD_non, asgD_int, asgD_bl, asgD_lst, asgD_tup, asgD_obj, asgD_mv, asgD_m, it_lst, it_olst, it_scr, li_lst, li_olst, pit_lst, pit_scr, sz_lst, sz_olst, sz_oll, sz_scr, sz_tup, ad_int, ad_ll, ad_oo, ad_lo, ad_ol, mu_int, mu_l, mu_o, gI_int, gI0_int, gI2_int, ii_eqv, co_int, co_bl, co_non, co_row, co_rowO, co_nil, co_nilO, co_ps, co_p, co_p2, co_rows, ev_ll, ev_ol, ev_lo, ev_oo, ev_ln, ev_lno, ev_on, ev_ono, in_ps, in_row, gEq, gNe, gIn, gNotIn, g1, g2, gLen, gList, δof, List.getElem?_cons_zero, List.getElem?_cons_succ, List.getElem?_nil, List.set_cons_zero, List.set_cons_succ, List.map_cons, List.map_nil, List.length_cons, List.length_nil, List.replicate_succ, List.replicate_zero, List.cons_append, List.nil_append, Option.bind_some, Option.bind_none, List.all_cons, List.all_nil, List.append_nil, Nat.reduceAdd, Nat.reduceSub, true_and, and_true, Bool.and_true, Bool.true_and, dCallX, dMethX, dCallV, dCallVX, dRaiseC, dDct, gd_un g, gd_pl g, gd_frz g]
        obtain ⟨z1, z2⟩ := bad (.inl ⟨rfl, rfl⟩)
        exact ⟨_, _, rfl, z1, z2, h⟩
      · simp only [m3, mK, dSeq, dIfS, dT, dTn, dTa, dTo, dOp, dVar, dC, dFz_eq, dCB, dCons, dNil, dCall, dCallB, dMeth, dMethB, dSet, dApp, dExt, dRet, dRetM, dNx, dDrop, dNeg, dAnd, dOr, dNot, dIf, dCh, dCh3, dU, dTup, dLst, dFld, dIsi, dIl, dIe, dIr1, dIr2, dIv1, dgN, dgT, putAll, dFor, dPar2, dPar3, dSetT, dLc, dYes, dSl, dNo, dSome, dRev, dNev, dSset, dCount, dIndex, dLrg1, dLrg2, dTwo, un_non, un_int, un_bl, un_str, un_lst, un_tup, un_obj, un_dct, un_scr, un_olst, un_oll, un_oobj, un_mv, un_m, un_p, pl_non, pl_int, pl_bl, pl_str, pl_lst, pl_tup, pl_obj, pl_dct, pl_scr, pl_m, pl_p, fzm_non, fzm_int, fzm_bl, fzm_lst, fzm_tup, fzm_obj, fzm_scr, fzm_olst, fzm_oll, fzm_oobj, fzm_m, frz_non, frz_int, frz_bl, frz_str, frz_lst, frz_tup, frz_obj, frz_dct, frz_scr, frz_olst, frz_oll, frz_m, fz_no, fz_tr, see_no, see_tr, asB_bl, asI_int, asgD_non, asgD_int, asgD_bl, asgD_lst, asgD_tup, asgD_obj, asgD_mv, asgD_m, it_lst, it_olst, it_scr, li_lst, li_olst, pit_lst, pit_scr, sz_lst, sz_olst, sz_oll, sz_scr, sz_tup, ad_int, ad_ll, ad_oo, ad_lo, ad_ol, mu_int, mu_l, mu_o, gI_int, gI0_int, gI2_int, ii_eqv, co_int, co_bl, co_non, co_row, co_rowO, co_nil, co_nilO, co_ps, co_p, co_p2, co_rows, ev_ll, ev_ol, ev_lo, ev_oo, ev_ln, ev_lno, ev_on, ev_ono, in_ps, in_row, gEq, gNe, gIn, gNotIn, g1, g2, gLen, gList, δof, List.getElem?_cons_zero, List.getElem?_cons_succ, List.getElem?_nil, List.set_cons_zero, List.set_cons_succ, List.map_cons, List.map_nil, List.length_cons, List.length_nil, List.replicate_succ, List.replicate_zero, List.cons_append, List.nil_append, Option.bind_some, Option.bind_none, List.all_cons, List.all_nil, List.append_nil, Nat.reduceAdd, Nat.reduceSub, true_and, and_true, Bool.and_true, Bool.true_and, dCallX, dMethX, dCallV, dCallVX, dRaiseC, dDct, gd_un g, gd_pl g, gd_frz g]
        refine ⟨⟨by decide, by decide⟩, by decide, by decide, by decide, by decide, by decide, by decide, ?_⟩
        refine ix_olst ⟨_, at_nat (i := 1) rfl, ?_⟩
        simp only [dSeq, dIfS, dT, dTn, dTa, dTo, dOp, dVar, dC, dFz_eq, dCB, dCons, dNil, dCall, dCallB, dMeth, dMethB, dSet, dApp, dExt, dRet, dRetM, dNx, dDrop, dNeg, dAnd, dOr, dNot, dIf, dCh, dCh3, dU, dTup, dLst, dFld, dIsi, dIl, dIe, dIr1, dIr2, dIv1, dgN, dgT, putAll, dFor, dPar2, dPar3, dSetT, dLc, dYes, dSl, dNo, dSome, dRev, dNev, dSset, dCount, dIndex, dLrg1, dLrg2, dTwo, un_non, un_int, un_bl, un_str, un_lst, un_tup, un_obj, un_dct, un_scr, un_olst, un_oll, un_oobj, un_mv, un_m, un_p, pl_non, pl_int, pl_bl, pl_str, pl_lst, pl_tup, pl_obj, pl_dct, pl_scr, pl_m, pl_p, fzm_non, fzm_int, fzm_bl, fzm_lst, fzm_tup, fzm_obj, fzm_scr, fzm_olst, fzm_oll, fzm_oobj, fzm_m, frz_non, frz_int, frz_bl, frz_str, frz_lst, frz_tup, frz_obj, frz_dct, frz_scr, frz_olst, frz_oll, frz_m, fz_no, fz_tr, see_no, see_tr, asB_bl, asI_int, asgD_non, asgD_int, asgD_bl, asgD_lst, asgD_tup, asgD_obj, asgD_mv, asgD_m, it_lst, it_olst, it_scr, li_lst, li_olst, pit_lst, pit_scr, sz_lst, sz_olst, sz_oll, sz_scr, sz_tup, ad_int, ad_ll, ad_oo, ad_lo, ad_ol, mu_int, mu_l, mu_o, gI_int, gI0_int, gI2_int, ii_eqv, co_int, co_bl, co_non, co_row, co_rowO, co_nil, co_nilO, co_ps, co_p, co_p2, co_rows, ev_ll, ev_ol, ev_lo, ev_oo, ev_ln, ev_lno, ev_on, ev_ono, in_ps, in_row, gEq, gNe, gIn, gNotIn, g1, g2, gLen, gList, δof, List.getElem?_cons_zero, List.getElem?_cons_succ, List.getElem?_nil, List.set_cons_zero, List.set_cons_succ, List.map_cons, List.map_nil, List.length_cons, List.length_nil, List.replicate_succ, List.replicate_zero, List.cons_append, List.nil_append, Option.bind_some, Option.bind_none, List.all_cons, List.all_nil, List.append_nil, Nat.reduceAdd, Nat.reduceSub, true_and, and_true, Bool.and_true, Bool.true_and, dCallX, dMethX, dCallV, dCallVX, dRaiseC, dDct, gd_un g, gd_pl g, gd_frz g]
        refine ⟨rfl, by decide, ?_⟩
        refine ix_olst ⟨_, at_nat (i := 2) rfl, ?_⟩
        refine ⟨_, _, rfl, (.inr (.inr (.inl ⟨rfl, rfl⟩))), ?_⟩
        refine ix_lst ⟨_, at_zero, ?_⟩
        refine ix_lst ⟨_, at_nat (i := 1) rfl, ?_⟩
        simp only [dSeq, dIfS, dT, dTn, dTa, dTo, dOp, dVar, dC, dFz_eq, dCB, dCons, dNil, dCall, dCallB, dMeth, dMethB, dSet, dApp, dExt, dRet, dRetM, dNx, dDrop, dNeg, dAnd, dOr, dNot, dIf, dCh, dCh3, dU, dTup, dLst, dFld, dIsi, dIl, dIe, dIr1, dIr2, dIv1, dgN, dgT, putAll, dFor, dPar2, dPar3, dSetT, dLc, dYes, dSl, dNo, dSome, dRev, dNev, dSset, dCount, dIndex, dLrg1, dLrg2, dTwo, un_non, un_int, un_bl, un_str, un_lst, un_tup, un_obj, un_dct, un_scr, un_olst, un_oll, un_oobj, un_mv, un_m, un_p, pl_non, pl_int, pl_bl, pl_str, pl_lst, pl_tup, pl_obj, pl_dct, pl_scr, pl_m, pl_p, fzm_non, fzm_int, fzm_bl, fzm_lst, fzm_tup, fzm_obj, fzm_scr, fzm_olst, fzm_oll, fzm_oobj, fzm_m, frz_non, frz_int, frz_bl, frz_str, frz_lst, frz_tup, frz_obj, frz_dct, frz_scr, frz_olst, frz_oll, frz_m, fz_no, fz_tr, see_no, see_tr, asB_bl, asI_int, asgD_non, asgD_int, asgD_bl, asgD_lst, asgD_tup, asgD_obj, asgD_mv, asgD_m, it_lst, it_olst, it_scr, li_lst, li_olst, pit_lst, pit_scr, sz_lst, sz_olst, sz_oll, sz_scr, sz_tup, ad_int, ad_ll, ad_oo, ad_lo, ad_ol, mu_int, mu_l, mu_o, gI_int, gI0_int, gI2_int, ii_eqv, co_int, co_bl, co_non, co_row, co_rowO, co_nil, co_nilO, co_ps, co_p, co_p2, co_rows, ev_ll, ev_ol, ev_lo, ev_oo, ev_ln, ev_lno, ev_on, ev_ono, in_ps, in_row, gEq, gNe, gIn, gNotIn, g1, g2, gLen, gList, δof, List.getElem?_cons_zero, List.getElem?_cons_succ, List.getElem?_nil, List.set_cons_zero, List.set_cons_succ, List.map_cons, List.map_nil, List.length_cons, List.length_nil, List.replicate_succ, List.replicate_zero, List.cons_append, List.nil_append, Option.bind_some, Option.bind_none, List.all_cons, List.all_nil, List.append_nil, Nat.reduceAdd, Nat.reduceSub, true_and, and_true, Bool.and_true, Bool.true_and, dCallX, dMethX, dCallV, dCallVX, dRaiseC, dDct, gd_un g, gd_pl g, gd_frz g]
        obtain ⟨z1, z2⟩ := bad (.inr ⟨rfl, rfl⟩)
        exact ⟨_, _, rfl, z1, z2, h⟩
      · simp only [m3, mK, dSeq, dIfS, dT, dTn, dTa, dTo, dOp, dVar, dC, dFz_eq, dCB, dCons, dNil, dCall, dCallB, dMeth, dMethB, dSet, dApp, dExt, dRet, dRetM, dNx, dDrop, dNeg, dAnd, dOr, dNot, dIf, dCh, dCh3, dU, dTup, dLst, dFld, dIsi, dIl, dIe, dIr1, dIr2, dIv1, dgN, dgT, putAll, dFor, dPar2, dPar3, dSetT, dLc, dYes, dSl, dNo, dSome, dRev, dNev, dSset, dCount, dIndex, dLrg1, dLrg2, dTwo, un_non, un_int, un_bl, un_str, un_lst, un_tup, un_obj, un_dct, un_scr, un_olst, un_oll, un_oobj, un_mv, un_m, un_p, pl_non, pl_int, pl_bl, pl_str, pl_lst, pl_tup, pl_obj, pl_dct, pl_scr, pl_m, pl_p, fzm_non, fzm_int, fzm_bl, fzm_lst, fzm_tup, fzm_obj, fzm_scr, fzm_olst, fzm_oll, fzm_oobj, fzm_m, frz_non, frz_int, frz_bl, frz_str, frz_lst, frz_tup, frz_obj, frz_dct, frz_scr, frz_olst, frz_oll, frz_m, fz_no, fz_tr, see_no, see_tr, asB_bl, asI_int, asgD_non, asgD_int, asgD_bl, asgD_lst, asgD_tup, asgD_obj, asgD_mv, asgD_m, it_lst, it_olst, it_scr, li_lst, li_olst, pit_lst, pit_scr, sz_lst, sz_olst, sz_oll, sz_scr, sz_tup, ad_int, ad_ll, ad_oo, ad_lo, ad_ol, mu_int, mu_l, mu_o, gI_int, gI0_int, gI2_int, ii_eqv, co_int, co_bl, co_non, co_row, co_rowO, co_nil, co_nilO, co_ps, co_p, co_p2, co_rows, ev_ll, ev_ol, ev_lo, ev_oo, ev_ln, ev_lno, ev_on, ev_ono, in_ps, in_row, gEq, gNe, gIn, gNotIn, g1, g2, gLen, gList, δof, List.getElem?_cons_zero, List.getElem?_cons_succ, List.getElem?_nil, List.set_cons_zero, List.set_cons_succ, List.map_cons, List.map_nil, List.length_cons, List.length_nil, List.replicate_succ, List.replicate_zero, List.cons_append, List.nil_append, Option.bind_some, Option.bind_none, List.all_cons, List.all_nil, List.append_nil, Nat.reduceAdd, Nat.reduceSub, true_and, and_true, Bool.and_true, Bool.true_and, dCallX, dMethX, dCallV, dCallVX, dRaiseC, dDct, gd_un g, gd_pl g, gd_frz g]
        refine ⟨⟨by decide, by decide⟩, by decide, by decide, by decide, by decide, by decide, by decide, ?_⟩
        refine ix_olst ⟨_, at_nat (i := 0) rfl, ?_⟩
        simp only [dSeq, dIfS, dT, dTn, dTa, dTo, dOp, dVar, dC, dFz_eq, dCB, dCons, dNil, dCall, dCallB, dMeth, dMethB, dSet, dApp, dExt, dRet, dRetM, dNx, dDrop, dNeg, dAnd, dOr, dNot, dIf, dCh, dCh3, dU, dTup, dLst, dFld, dIsi, dIl, dIe, dIr1, dIr2, dIv1, dgN, dgT, putAll, dFor, dPar2, dPar3, dSetT, dLc, dYes, dSl, dNo, dSome, dRev, dNev, dSset, dCount, dIndex, dLrg1, dLrg2, dTwo, un_non, un_int, un_bl, un_str, un_lst, un_tup, un_obj, un_dct, un_scr, un_olst, un_oll, un_oobj, un_mv, un_m, un_p, pl_non, pl_int, pl_bl, pl_str, pl_lst, pl_tup, pl_obj, pl_dct, pl_scr, pl_m, pl_p, fzm_non, fzm_int, fzm_bl, fzm_lst, fzm_tup, fzm_obj, fzm_scr, fzm_olst, fzm_oll, fzm_oobj, fzm_m, frz_non, frz_int, frz_bl, frz_str, frz_lst, frz_tup, frz_obj, frz_dct, frz_scr, frz_olst, frz_oll, frz_m, fz_no, fz_tr, see_no, see_tr, asB_bl, asI_int, asgD_non, asgD_int, asgD_bl, asgD_lst, asgD_tup, asgD_obj, asgD_mv, asgD_m, it_lst, it_olst, it_scr, li_lst, li_olst, pit_lst, pit_scr, sz_lst, sz_olst, sz_oll, sz_scr, sz_tup, ad_int, ad_ll, ad_oo, ad_lo, ad_ol, mu_int, mu_l, mu_o, gI_int, gI0_int, gI2_int, ii_eqv, co_int, co_bl, co_non, co_row, co_rowO, co_nil, co_nilO, co_ps, co_p, co_p2, co_rows, ev_ll, ev_ol, ev_lo, ev_oo, ev_ln, ev_lno, ev_on, ev_ono, in_ps, in_row, gEq, gNe, gIn, gNotIn, g1, g2, gLen, gList, δof, List.getElem?_cons_zero, List.getElem?_cons_succ, List.getElem?_nil, List.set_cons_zero, List.set_cons_succ, List.map_cons, List.map_nil, List.length_cons, List.length_nil, List.replicate_succ, List.replicate_zero, List.cons_append, List.nil_append, Option.bind_some, Option.bind_none, List.all_cons, List.all_nil, List.append_nil, Nat.reduceAdd, Nat.reduceSub, true_and, and_true, Bool.and_true, Bool.true_and, dCallX, dMethX, dCallV, dCallVX, dRaiseC, dDct, gd_un g, gd_pl g, gd_frz g]
        refine ⟨rfl, by decide, ?_⟩
        refine ix_olst ⟨_, at_nat (i := 3) rfl, ?_⟩
        refine ⟨_, _, rfl, (.inr (.inr (.inr (⟨rfl, rfl⟩)))), ?_⟩
        refine ix_lst ⟨_, at_zero, ?_⟩
        refine ix_lst ⟨_, at_nat (i := 1) rfl, ?_⟩
        simp only [dSeq, dIfS, dT, dTn, dTa, dTo, dOp, dVar, dC, dFz_eq, dCB, dCons, dNil, dCall, dCallB, dMeth, dMethB, dSet, dApp, dExt, dRet, dRetM, dNx, dDrop, dNeg, dAnd, dOr, dNot, dIf, dCh, dCh3, dU, dTup, dLst, dFld, dIsi, dIl, dIe, dIr1, dIr2, dIv1, dgN, dgT, putAll, dFor, dPar2, dPar3, dSetT, dLc, dYes, dSl, dNo, dSome, dRev, dNev, dSset, dCount, dIndex, dLrg1, dLrg2, dTwo, un_non, un_int, un_bl, un_str, un_lst, un_tup, un_obj, un_dct, un_scr, un_olst, un_oll, un_oobj, un_mv, un_m, un_p, pl_non, pl_int, pl_bl, pl_str, pl_lst, pl_tup, pl_obj, pl_dct, pl_scr, pl_m, pl_p, fzm_non, fzm_int, fzm_bl, fzm_lst, fzm_tup, fzm_obj, fzm_scr, fzm_olst, fzm_oll, fzm_oobj, fzm_m, frz_non, frz_int, frz_bl, frz_str, frz_lst, frz_tup, frz_obj, frz_dct, frz_scr, frz_olst, frz_oll, frz_m, fz_no, fz_tr, see_no, see_tr, asB_bl, asI_int, asgD_non, asgD_int, asgD_bl, asgD_lst, asgD_tup, asgD_obj, asgD_mv, asgD_m, it_lst, it_olst, it_scr, li_lst, li_olst, pit_lst, pit_scr, sz_lst, sz_olst, sz_oll, sz_scr, sz_tup, ad_int, ad_ll, ad_oo, ad_lo, ad_ol, mu_int, mu_l, mu_o, gI_int, gI0_int, gI2_int, ii_eqv, co_int, co_bl, co_non, co_row, co_rowO, co_nil, co_nilO, co_ps, co_p, co_p2, co_rows, ev_ll, ev_ol, ev_lo, ev_oo, ev_ln, ev_lno, ev_on, ev_ono, in_ps, in_row, gEq, gNe, gIn, gNotIn, g1, g2, gLen, gList, δof, List.getElem?_cons_zero, List.getElem?_cons_succ, List.getElem?_nil, List.set_cons_zero, List.set_cons_succ, List.map_cons, List.map_nil, List.length_cons, List.length_nil, List.replicate_succ, List.replicate_zero, List.cons_append, List.nil_append, Option.bind_some, Option.bind_none, List.all_cons, List.all_nil, List.append_nil, Nat.reduceAdd, Nat.reduceSub, true_and, and_true, Bool.and_true, Bool.true_and, dCallX, dMethX, dCallV, dCallVX, dRaiseC, dDct, gd_un g, gd_pl g, gd_frz g]
        obtain ⟨z1, z2⟩ := bad (.inl ⟨rfl, rfl⟩)
        exact ⟨_, _, rfl, z1, z2, h⟩
      · simp only [m3, mK, dSeq, dIfS, dT, dTn, dTa, dTo, dOp, dVar, dC, dFz_eq, dCB, dCons, dNil, dCall, dCallB, dMeth, dMethB, dSet, dApp, dExt, dRet, dRetM, dNx, dDrop, dNeg, dAnd, dOr, dNot, dIf, dCh, dCh3, dU, dTup, dLst, dFld, dIsi, dIl, dIe, dIr1, dIr2, dIv1, dgN, dgT, putAll, dFor, dPar2, dPar3, dSetT, dLc, dYes, dSl, dNo, dSome, dRev, dNev, dSset, dCount, dIndex, dLrg1, dLrg2, dTwo, un_non, un_int, un_bl, un_str, un_lst, un_tup, un_obj, un_dct, un_scr, un_olst, un_oll, un_oobj, un_mv, un_m, un_p, pl_non, pl_int, pl_bl, pl_str, pl_lst, pl_tup, pl_obj, pl_dct, pl_scr, pl_m, pl_p, fzm_non, fzm_int, fzm_bl, fzm_lst, fzm_tup, fzm_obj, fzm_scr, fzm_olst, fzm_oll, fzm_oobj, fzm_m, frz_non, frz_int, frz_bl, frz_str, frz_lst, frz_tup, frz_obj, frz_dct, frz_scr, frz_olst, frz_oll, frz_m, fz_no, fz_tr, see_no, see_tr, asB_bl, asI_int, asgD_non, asgD_int, asgD_bl, asgD_lst, asgD_tup, asgD_obj, asgD_mv, asgD_m, it_lst, it_olst, it_scr, li_lst, li_olst, pit_lst, pit_scr, sz_lst, sz_olst, sz_oll, sz_scr, sz_tup, ad_int, ad_ll, ad_oo, ad_lo, ad_ol, mu_int, mu_l, mu_o, gI_int, gI0_int, gI2_int, ii_eqv, co_int, co_bl, co_non, co_row, co_rowO, co_nil, co_nilO, co_ps, co_p, co_p2, co_rows, ev_ll, ev_ol, ev_lo, ev_oo, ev_ln, ev_lno, ev_on, ev_ono, in_ps, in_row, gEq, gNe, gIn, gNotIn, g1, g2, gLen, gList, δof, List.getElem?_cons_zero, List.getElem?_cons_succ, List.getElem?_nil, List.set_cons_zero, List.set_cons_succ, List.map_cons, List.map_nil, List.length_cons, List.length_nil, List.replicate_succ, List.replicate_zero, List.cons_append, List.nil_append, Option.bind_some, Option.bind_none, List.all_cons, List.all_nil, List.append_nil, Nat.reduceAdd, Nat.reduceSub, true_and, and_true, Bool.and_true, Bool.true_and, dCallX, dMethX, dCallV, dCallVX, dRaiseC, dDct, gd_un g, gd_pl g, gd_frz g]
        refine ⟨⟨by decide, by decide⟩, by decide, by decide, by decide, by decide, by decide, by decide, ?_⟩
        refine ix_olst ⟨_, at_nat (i := 1) rfl, ?_⟩
        simp only [dSeq, dIfS, dT, dTn, dTa, dTo, dOp, dVar, dC, dFz_eq, dCB, dCons, dNil, dCall, dCallB, dMeth, dMethB, dSet, dApp, dExt, dRet, dRetM, dNx, dDrop, dNeg, dAnd, dOr, dNot, dIf, dCh, dCh3, dU, dTup, dLst, dFld, dIsi, dIl, dIe, dIr1, dIr2, dIv1, dgN, dgT, putAll, dFor, dPar2, dPar3, dSetT, dLc, dYes, dSl, dNo, dSome, dRev, dNev, dSset, dCount, dIndex, dLrg1, dLrg2, dTwo, un_non, un_int, un_bl, un_str, un_lst, un_tup, un_obj, un_dct, un_scr, un_olst, un_oll, un_oobj, un_mv, un_m, un_p, pl_non, pl_int, pl_bl, pl_str, pl_lst, pl_tup, pl_obj, pl_dct, pl_scr, pl_m, pl_p, fzm_non, fzm_int, fzm_bl, fzm_lst, fzm_tup, fzm_obj, fzm_scr, fzm_olst, fzm_oll, fzm_oobj, fzm_m, frz_non, frz_int, frz_bl, frz_str, frz_lst, frz_tup, frz_obj, frz_dct, frz_scr, frz_olst, frz_oll, frz_m, fz_no, fz_tr, see_no, see_tr, asB_bl, asI_int, asgD_non, asgD_int, asgD_bl, asgD_lst, asgD_tup, asgD_obj, asgD_mv, asgD_m, it_lst, it_olst, it_scr, li_lst, li_olst, pit_lst, pit_scr, sz_lst, sz_olst, sz_oll, sz_scr, sz_tup, ad_int, ad_ll, ad_oo, ad_lo, ad_ol, mu_int, mu_l, mu_o, gI_int, gI0_int, gI2_int, ii_eqv, co_int, co_bl, co_non, co_row, co_rowO, co_nil, co_nilO, co_ps, co_p, co_p2, co_rows, ev_ll, ev_ol, ev_lo, ev_oo, ev_ln, ev_lno, ev_on, ev_ono, in_ps, in_row, gEq, gNe, gIn, gNotIn, g1, g2, gLen, gList, δof, List.getElem?_cons_zero, List.getElem?_cons_succ, List.getElem?_nil, List.set_cons_zero, List.set_cons_succ, List.map_cons, List.map_nil, List.length_cons, List.length_nil, List.replicate_succ, List.replicate_zero, List.cons_append, List.nil_append, Option.bind_some, Option.bind_none, List.all_cons, List.all_nil, List.append_nil, Nat.reduceAdd, Nat.reduceSub, true_and, and_true, Bool.and_true, Bool.true_and, dCallX, dMethX, dCallV, dCallVX, dRaiseC, dDct, gd_un g, gd_pl g, gd_frz g]
        refine ⟨rfl, by decide, ?_⟩
        refine ix_olst ⟨_, at_nat (i := 3) rfl, ?_⟩
        refine ⟨_, _, rfl, (.inr (.inr (.inr (⟨rfl, rfl⟩)))), ?_⟩
        refine ix_lst ⟨_, at_zero, ?_⟩
        refine ix_lst ⟨_, at_nat (i := 1) rfl, ?_⟩
        simp only [dSeq, dIfS, dT, dTn, dTa, dTo, dOp, dVar, dC, dFz_eq, dCB, dCons, dNil, dCall, dCallB, dMeth, dMethB, dSet, dApp, dExt, dRet, dRetM, dNx, dDrop, dNeg, dAnd, dOr, dNot, dIf, dCh, dCh3, dU, dTup, dLst, dFld, dIsi, dIl, dIe, dIr1, dIr2, dIv1, dgN, dgT, putAll, dFor, dPar2, dPar3, dSetT, dLc, dYes, dSl, dNo, dSome, dRev, dNev, dSset, dCount, dIndex, dLrg1, dLrg2, dTwo, un_non, un_int, un_bl, un_str, un_lst, un_tup, un_obj, un_dct, un_scr, un_olst, un_oll, un_oobj, un_mv, un_m, un_p, pl_non, pl_int, pl_bl, pl_str, pl_lst, pl_tup, pl_obj, pl_dct, pl_scr, pl_m, pl_p, fzm_non, fzm_int, fzm_bl, fzm_lst, fzm_tup, fzm_obj, fzm_scr, fzm_olst, fzm_oll, fzm_oobj, fzm_m, frz_non, frz_int, frz_bl, frz_str, frz_lst, frz_tup, frz_obj, frz_dct, frz_scr, frz_olst, frz_oll, frz_m, fz_no, fz_tr, see_no, see_tr, asB_bl, asI_int, asgD_non, asgD_int, asgD_bl, asgD_lst, asgD_tup, asgD_obj, asgD_mv, asgD_m, it_lst, it_olst, it_scr, li_lst, li_olst, pit_lst, pit_scr, sz_lst, sz_olst, sz_oll, sz_scr, sz_tup, ad_int, ad_ll, ad_oo, ad_lo, ad_ol, mu_int, mu_l, mu_o, gI_int, gI0_int, gI2_int, ii_eqv, co_int, co_bl, co_non, co_row, co_rowO, co_nil, co_nilO, co_ps, co_p, co_p2, co_rows, ev_ll, ev_ol, ev_lo, ev_oo, ev_ln, ev_lno, ev_on, ev_ono, in_ps, in_row, gEq, gNe, gIn, gNotIn, g1, g2, gLen, gList, δof, List.getElem?_cons_zero, List.getElem?_cons_succ, List.getElem?_nil, List.set_cons_zero, List.set_cons_succ, List.map_cons, List.map_nil, List.length_cons, List.length_nil, List.replicate_succ, List.replicate_zero, List.cons_append, List.nil_append, Option.bind_some, Option.bind_none, List.all_cons, List.all_nil, List.append_nil, Nat.reduceAdd, Nat.reduceSub, true_and, and_true, Bool.and_true, Bool.true_and, dCallX, dMethX, dCallV, dCallVX, dRaiseC, dDct, gd_un g, gd_pl g, gd_frz g]
        obtain ⟨z1, z2⟩ := bad (.inr ⟨rfl, rfl⟩)
        exact ⟨_, _, rfl, z1, z2, h⟩
    · refine lt_f c1 ?_
      by_cases c2 : door < 13
      · refine lt_t c2 ?_
        rcases (by omega : door = 10 ∨ door = 11 ∨ door = 12) with rfl | rfl | rfl
        · simp only [m3, mK, dSeq, dIfS, dT, dTn, dTa, dTo, dOp, dVar, dC, dFz_eq, dCB, dCons, dNil, dCall, dCallB, dMeth, dMethB, dSet, dApp, dExt, dRet, dRetM, dNx, dDrop, dNeg, dAnd, dOr, dNot, dIf, dCh, dCh3, dU, dTup, dLst, dFld, dIsi, dIl, dIe, dIr1, dIr2, dIv1, dgN, dgT, putAll, dFor, dPar2, dPar3, dSetT, dLc, dYes, dSl, dNo, dSome, dRev, dNev, dSset, dCount, dIndex, dLrg1, dLrg2, dTwo, un_non, un_int, un_bl, un_str, un_lst, un_tup, un_obj, un_dct, un_scr, un_olst, un_oll, un_oobj, un_mv, un_m, un_p, pl_non, pl_int, pl_bl, pl_str, pl_lst, pl_tup, pl_obj, pl_dct, pl_scr, pl_m, pl_p, fzm_non, fzm_int, fzm_bl, fzm_lst, fzm_tup, fzm_obj, fzm_scr, fzm_olst, fzm_oll, fzm_oobj, fzm_m, frz_non, frz_int, frz_bl, frz_str, frz_lst, frz_tup, frz_obj, frz_dct, frz_scr, frz_olst, frz_oll, frz_m, fz_no, fz_tr, see_no, see_tr, asB_bl, asI_int, asgD_non, asgD_int, asgD_bl, asgD_lst, asgD_tup, asgD_obj, asgD_mv, asgD_m, it_lst, it_olst, it_scr, li_lst, li_olst, pit_lst, pit_scr, sz_lst, sz_olst, sz_oll, sz_scr, sz_tup, ad_int, ad_ll, ad_oo, ad_lo, ad_ol, mu_int, mu_l, mu_o, gI_int, gI0_int, gI2_int, ii_eqv, co_int, co_bl, co_non, co_row, co_rowO, co_nil, co_nilO, co_ps, co_p, co_p2, co_rows, ev_ll, ev_ol, ev_lo, ev_oo, ev_ln, ev_lno, ev_on, ev_ono, in_ps, in_row, gEq, gNe, gIn, gNotIn, g1, g2, gLen, gList, δof, List.getElem?_cons_zero, List.getElem?_cons_succ, List.getElem?_nil, List.set_cons_zero, List.set_cons_succ, List.map_cons, List.map_nil, List.length_cons, List.length_nil, List.replicate_succ, List.replicate_zero, List.cons_append, List.nil_append, Option.bind_some, Option.bind_none, List.all_cons, List.all_nil, List.append_nil, Nat.reduceAdd, Nat.reduceSub, true_and, and_true, Bool.and_true, Bool.true_and, dCallX, dMethX, dCallV, dCallVX, dRaiseC, dDct, gd_un g, gd_pl g, gd_frz g]
          refine ⟨rfl, by decide, ?_⟩
          refine ix_olst ⟨_, at_nat (i := 0) rfl, ?_⟩
          refine ⟨_, _, rfl, (.inl ⟨rfl, rfl⟩), ?_⟩
          exact ⟨d, rfl, g, hd, h⟩
        · simp only [m3, mK, dSeq, dIfS, dT, dTn, dTa, dTo, dOp, dVar, dC, dFz_eq, dCB, dCons, dNil, dCall, dCallB, dMeth, dMethB, dSet, dApp, dExt, dRet, dRetM, dNx, dDrop, dNeg, dAnd, dOr, dNot, dIf, dCh, dCh3, dU, dTup, dLst, dFld, dIsi, dIl, dIe, dIr1, dIr2, dIv1, dgN, dgT, putAll, dFor, dPar2, dPar3, dSetT, dLc, dYes, dSl, dNo, dSome, dRev, dNev, dSset, dCount, dIndex, dLrg1, dLrg2, dTwo, un_non, un_int, un_bl, un_str, un_lst, un_tup, un_obj, un_dct, un_scr, un_olst, un_oll, un_oobj, un_mv, un_m, un_p, pl_non, pl_int, pl_bl, pl_str, pl_lst, pl_tup, pl_obj, pl_dct, pl_scr, pl_m, pl_p, fzm_non, fzm_int, fzm_bl, fzm_lst, fzm_tup, fzm_obj, fzm_scr, fzm_olst, fzm_oll, fzm_oobj, fzm_m, frz_non, frz_int, frz_bl, frz_str, frz_lst, frz_tup, frz_obj, frz_dct, frz_scr, frz_olst, frz_oll, frz_m, fz_no, fz_tr, see_no, see_tr, asB_bl, asI_int, asgD_non, asgD_int, asgD_bl, asgD_lst, asgD_tup, asgD_obj, asgD_mv, asgD_m, it_lst, it_olst, it_scr, li_lst, li_olst, pit_lst, pit_scr, sz_lst, sz_olst, sz_oll, sz_scr, sz_tup, ad_int, ad_ll, ad_oo, ad_lo, ad_ol, mu_int, mu_l, mu_o, gI_int, gI0_int, gI2_int, ii_eqv, co_int, co_bl, co_non, co_row, co_rowO, co_nil, co_nilO, co_ps, co_p, co_p2, co_rows, ev_ll, ev_ol, ev_lo, ev_oo, ev_ln, ev_lno, ev_on, ev_ono, in_ps, in_row, gEq, gNe, gIn, gNotIn, g1, g2, gLen, gList, δof, List.getElem?_cons_zero, List.getElem?_cons_succ, List.getElem?_nil, List.set_cons_zero, List.set_cons_succ, List.map_cons, List.map_nil, List.length_cons, List.length_nil, List.replicate_succ, List.replicate_zero, List.cons_append, List.nil_append, Option.bind_some, Option.bind_none, List.all_cons, List.all_nil, List.append_nil, Nat.reduceAdd, Nat.reduceSub, true_and, and_true, Bool.and_true, Bool.true_and, dCallX, dMethX, dCallV, dCallVX, dRaiseC, dDct, gd_un g, gd_pl g, gd_frz g]
          refine ⟨rfl, by decide, ?_⟩
          refine ix_olst ⟨_, at_nat (i := 1) rfl, ?_⟩
          refine ⟨_, _, rfl, (.inr (.inl ⟨rfl, rfl⟩)), ?_⟩
          exact ⟨d, rfl, g, hd, h⟩
        · simp only [m3, mK, dSeq, dIfS, dT, dTn, dTa, dTo, dOp, dVar, dC, dFz_eq, dCB, dCons, dNil, dCall, dCallB, dMeth, dMethB, dSet, dApp, dExt, dRet, dRetM, dNx, dDrop, dNeg, dAnd, dOr, dNot, dIf, dCh, dCh3, dU, dTup, dLst, dFld, dIsi, dIl, dIe, dIr1, dIr2, dIv1, dgN, dgT, putAll, dFor, dPar2, dPar3, dSetT, dLc, dYes, dSl, dNo, dSome, dRev, dNev, dSset, dCount, dIndex, dLrg1, dLrg2, dTwo, un_non, un_int, un_bl, un_str, un_lst, un_tup, un_obj, un_dct, un_scr, un_olst, un_oll, un_oobj, un_mv, un_m, un_p, pl_non, pl_int, pl_bl, pl_str, pl_lst, pl_tup, pl_obj, pl_dct, pl_scr, pl_m, pl_p, fzm_non, fzm_int, fzm_bl, fzm_lst, fzm_tup, fzm_obj, fzm_scr, fzm_olst, fzm_oll, fzm_oobj, fzm_m, frz_non, frz_int, frz_bl, frz_str, frz_lst, frz_tup, frz_obj, frz_dct, frz_scr, frz_olst, frz_oll, frz_m, fz_no, fz_tr, see_no, see_tr, asB_bl, asI_int, asgD_non, asgD_int, asgD_bl, asgD_lst, asgD_tup, asgD_obj, asgD_mv, asgD_m, it_lst, it_olst, it_scr, li_lst, li_olst, pit_lst, pit_scr, sz_lst, sz_olst, sz_oll, sz_scr, sz_tup, ad_int, ad_ll, ad_oo, ad_lo, ad_ol, mu_int, mu_l, mu_o, gI_int, gI0_int, gI2_int, ii_eqv, co_int, co_bl, co_non, co_row, co_rowO, co_nil, co_nilO, co_ps, co_p, co_p2, co_rows, ev_ll, ev_ol, ev_lo, ev_oo, ev_ln, ev_lno, ev_on, ev_ono, in_ps, in_row, gEq, gNe, gIn, gNotIn, g1, g2, gLen, gList, δof, List.getElem?_cons_zero, List.getElem?_cons_succ, List.getElem?_nil, List.set_cons_zero, List.set_cons_succ, List.map_cons, List.map_nil, List.length_cons, List.length_nil, List.replicate_succ, List.replicate_zero, List.cons_append, List.nil_append, Option.bind_some, Option.bind_none, List.all_cons, List.all_nil, List.append_nil, Nat.reduceAdd, Nat.reduceSub, true_and, and_true, Bool.and_true, Bool.true_and, dCallX, dMethX, dCallV, dCallVX, dRaiseC, dDct, gd_un g, gd_pl g, gd_frz g]
          refine ⟨rfl, by decide, ?_⟩
          refine ix_olst ⟨_, at_nat (i := 2) rfl, ?_⟩
          refine ⟨_, _, rfl, (.inr (.inr (⟨rfl, rfl⟩))), ?_⟩
          exact ⟨d, rfl, g, hd, h⟩
      · have e : door = 13 := by omega
        subst e
        refine lt_f c2 ?_
        refine lt_t (by omega) ?_
        simp only [m3, mK, dSeq, dIfS, dT, dTn, dTa, dTo, dOp, dVar, dC, dFz_eq, dCB, dCons, dNil, dCall, dCallB, dMeth, dMethB, dSet, dApp, dExt, dRet, dRetM, dNx, dDrop, dNeg, dAnd, dOr, dNot, dIf, dCh, dCh3, dU, dTup, dLst, dFld, dIsi, dIl, dIe, dIr1, dIr2, dIv1, dgN, dgT, putAll, dFor, dPar2, dPar3, dSetT, dLc, dYes, dSl, dNo, dSome, dRev, dNev, dSset, dCount, dIndex, dLrg1, dLrg2, dTwo, un_non, un_int, un_bl, un_str, un_lst, un_tup, un_obj, un_dct, un_scr, un_olst, un_oll, un_oobj, un_mv, un_m, un_p, pl_non, pl_int, pl_bl, pl_str, pl_lst, pl_tup, pl_obj, pl_dct, pl_scr, pl_m, pl_p, fzm_non, fzm_int, fzm_bl, fzm_lst, fzm_tup, fzm_obj, fzm_scr, fzm_olst, fzm_oll, fzm_oobj, fzm_m, frz_non, frz_int, frz_bl, frz_str, frz_lst, frz_tup, frz_obj, frz_dct, frz_scr, frz_olst, frz_oll, frz_m, fz_no, fz_tr, see_no, see_tr, asB_bl, asI_int, asgD_non, asgD_int, asgD_bl, asgD_lst, asgD_tup, asgD_obj, asgD_mv, asgD_m, it_lst, it_olst, it_scr, li_lst, li_olst, pit_lst, pit_scr, sz_lst, sz_olst, sz_oll, sz_scr, sz_tup, ad_int, ad_ll, ad_oo, ad_lo, ad_ol, mu_int, mu_l, mu_o, gI_int, gI0_int, gI2_int, ii_eqv, co_int, co_bl, co_non, co_row, co_rowO, co_nil, co_nilO, co_ps, co_p, co_p2, co_rows, ev_ll, ev_ol, ev_lo, ev_oo, ev_ln, ev_lno, ev_on, ev_ono, in_ps, in_row, gEq, gNe, gIn, gNotIn, g1, g2, gLen, gList, δof, List.getElem?_cons_zero, List.getElem?_cons_succ, List.getElem?_nil, List.set_cons_zero, List.set_cons_succ, List.map_cons, List.map_nil, List.length_cons, List.length_nil, List.replicate_succ, List.replicate_zero, List.cons_append, List.nil_append, Option.bind_some, Option.bind_none, List.all_cons, List.all_nil, List.append_nil, Nat.reduceAdd, Nat.reduceSub, true_and, and_true, Bool.and_true, Bool.true_and, dCallX, dMethX, dCallV, dCallVX, dRaiseC, dDct, gd_un g, gd_pl g, gd_frz g, decide_true]
        exact ⟨d, .non, rfl, ⟨g, rfl⟩, .inl ⟨hd, h⟩⟩
  · refine lt_f (by omega) (lt_f (by omega) (lt_f (by omega) (lt_t (by omega) ?_)))
    simp only [m3, mK, dSeq, dIfS, dT, dTn, dTa, dTo, dOp, dVar, dC, dFz_eq, dCB, dCons, dNil, dCall, dCallB, dMeth, dMethB, dSet, dApp, dExt, dRet, dRetM, dNx, dDrop, dNeg, dAnd, dOr, dNot, dIf, dCh, dCh3, dU, dTup, dLst, dFld, dIsi, dIl, dIe, dIr1, dIr2, dIv1, dgN, dgT, putAll, dFor, dPar2, dPar3, dSetT, dLc, dYes, dSl, dNo, dSome, dRev, dNev, dSset, dCount, dIndex, dLrg1, dLrg2, dTwo, un_non, un_int, un_bl, un_str, un_lst, un_tup, un_obj, un_dct, un_scr, un_olst, un_oll, un_oobj, un_mv, un_m, un_p, pl_non, pl_int, pl_bl, pl_str, pl_lst, pl_tup, pl_obj, pl_dct, pl_scr, pl_m, pl_p, fzm_non, fzm_int, fzm_bl, fzm_lst, fzm_tup, fzm_obj, fzm_scr, fzm_olst, fzm_oll, fzm_oobj, fzm_m, frz_non, frz_int, frz_bl, frz_str, frz_lst, frz_tup, frz_obj, frz_dct, frz_scr, frz_olst, frz_oll, frz_m, fz_no, fz_tr, see_no, see_tr, asB_bl, asI_int, asgD_non, asgD_int, asgD_bl, asgD_lst, asgD_tup, asgD_obj, asgD_mv, asgD_m, it_lst, it_olst, it_scr, li_lst, li_olst, pit_lst, pit_scr, sz_lst, sz_olst, sz_oll, sz_scr, sz_tup, ad_int, ad_ll, ad_oo, ad_lo, ad_ol, mu_int, mu_l, mu_o, gI_int, gI0_int, gI2_int, ii_eqv, co_int, co_bl, co_non, co_row, co_rowO, co_nil, co_nilO, co_ps, co_p, co_p2, co_rows, ev_ll, ev_ol, ev_lo, ev_oo, ev_ln, ev_lno, ev_on, ev_ono, in_ps, in_row, gEq, gNe, gIn, gNotIn, g1, g2, gLen, gList, δof, List.getElem?_cons_zero, List.getElem?_cons_succ, List.getElem?_nil, List.set_cons_zero, List.set_cons_succ, List.map_cons, List.map_nil, List.length_cons, List.length_nil, List.replicate_succ, List.replicate_zero, List.cons_append, List.nil_append, Option.bind_some, Option.bind_none, List.all_cons, List.all_nil, List.append_nil, Nat.reduceAdd, Nat.reduceSub, true_and, and_true, Bool.and_true, Bool.true_and, dCallX, dMethX, dCallV, dCallVX, dRaiseC, dDct, gd_un g, gd_pl g, gd_frz g]
    rw [decide_eq_false (by decide)]
    refine ⟨by decide, ?_⟩
    exact ⟨rD [0, 2, 1], d, rfl, ⟨rfl, g⟩, .inr ⟨rfl, hd, h⟩⟩
  · refine lt_f (by omega) (lt_f (by omega) (lt_f (by omega) (lt_f (by omega) ?_)))
    rcases hdoor with rfl | rfl | rfl | rfl
    · refine lt_t (by omega) ?_
      simp only [m3, mK, dSeq, dIfS, dT, dTn, dTa, dTo, dOp, dVar, dC, dFz_eq, dCB, dCons, dNil, dCall, dCallB, dMeth, dMethB, dSet, dApp, dExt, dRet, dRetM, dNx, dDrop, dNeg, dAnd, dOr, dNot, dIf, dCh, dCh3, dU, dTup, dLst, dFld, dIsi, dIl, dIe, dIr1, dIr2, dIv1, dgN, dgT, putAll, dFor, dPar2, dPar3, dSetT, dLc, dYes, dSl, dNo, dSome, dRev, dNev, dSset, dCount, dIndex, dLrg1, dLrg2, dTwo, un_non, un_int, un_bl, un_str, un_lst, un_tup, un_obj, un_dct, un_scr, un_olst, un_oll, un_oobj, un_mv, un_m, un_p, pl_non, pl_int, pl_bl, pl_str, pl_lst, pl_tup, pl_obj, pl_dct, pl_scr, pl_m, pl_p, fzm_non, fzm_int, fzm_bl, fzm_lst, fzm_tup, fzm_obj, fzm_scr, fzm_olst, fzm_oll, fzm_oobj, fzm_m, frz_non, frz_int, frz_bl, frz_str, frz_lst, frz_tup, frz_obj, frz_dct, frz_scr, frz_olst, frz_oll, frz_m, fz_no, fz_tr, see_no, see_tr, asB_bl, asI_int, asgD_non, asgD_int, asgD_bl, asgD_lst, asgD_tup, asgD_obj, asgD_mv, asgD_m, it_lst, it_olst, it_scr, li_lst, li_olst, pit_lst, pit_scr, sz_lst, sz_olst, sz_oll, sz_scr, sz_tup, ad_int, ad_ll, ad_oo, ad_lo, ad_ol, mu_int, mu_l, mu_o, gI_int, gI0_int, gI2_int, ii_eqv, co_int, co_bl, co_non, co_row, co_rowO, co_nil, co_nilO, co_ps, co_p, co_p2, co_rows, ev_ll, ev_ol, ev_lo, ev_oo, ev_ln, ev_lno, ev_on, ev_ono, in_ps, in_row, gEq, gNe, gIn, gNotIn, g1, g2, gLen, gList, δof, List.getElem?_cons_zero, List.getElem?_cons_succ, List.getElem?_nil, List.set_cons_zero, List.set_cons_succ, List.map_cons, List.map_nil, List.length_cons, List.length_nil, List.replicate_succ, List.replicate_zero, List.cons_append, List.nil_append, Option.bind_some, Option.bind_none, List.all_cons, List.all_nil, List.append_nil, Nat.reduceAdd, Nat.reduceSub, true_and, and_true, Bool.and_true, Bool.true_and, dCallX, dMethX, dCallV, dCallVX, dRaiseC, dDct, gd_un g, gd_pl g, gd_frz g, decide_true]
      exact ⟨⟨rfl, rfl⟩, d, .int 0, rfl, ⟨g, rfl⟩, by rw [hd, Bool.false_and], h⟩
    · refine lt_t (by omega) ?_
      simp only [m3, mK, dSeq, dIfS, dT, dTn, dTa, dTo, dOp, dVar, dC, dFz_eq, dCB, dCons, dNil, dCall, dCallB, dMeth, dMethB, dSet, dApp, dExt, dRet, dRetM, dNx, dDrop, dNeg, dAnd, dOr, dNot, dIf, dCh, dCh3, dU, dTup, dLst, dFld, dIsi, dIl, dIe, dIr1, dIr2, dIv1, dgN, dgT, putAll, dFor, dPar2, dPar3, dSetT, dLc, dYes, dSl, dNo, dSome, dRev, dNev, dSset, dCount, dIndex, dLrg1, dLrg2, dTwo, un_non, un_int, un_bl, un_str, un_lst, un_tup, un_obj, un_dct, un_scr, un_olst, un_oll, un_oobj, un_mv, un_m, un_p, pl_non, pl_int, pl_bl, pl_str, pl_lst, pl_tup, pl_obj, pl_dct, pl_scr, pl_m, pl_p, fzm_non, fzm_int, fzm_bl, fzm_lst, fzm_tup, fzm_obj, fzm_scr, fzm_olst, fzm_oll, fzm_oobj, fzm_m, frz_non, frz_int, frz_bl, frz_str, frz_lst, frz_tup, frz_obj, frz_dct, frz_scr, frz_olst, frz_oll, frz_m, fz_no, fz_tr, see_no, see_tr, asB_bl, asI_int, asgD_non, asgD_int, asgD_bl, asgD_lst, asgD_tup, asgD_obj, asgD_mv, asgD_m, it_lst, it_olst, it_scr, li_lst, li_olst, pit_lst, pit_scr, sz_lst, sz_olst, sz_oll, sz_scr, sz_tup, ad_int, ad_ll, ad_oo, ad_lo, ad_ol, mu_int, mu_l, mu_o, gI_int, gI0_int, gI2_int, ii_eqv, co_int, co_bl, co_non, co_row, co_rowO, co_nil, co_nilO, co_ps, co_p, co_p2, co_rows, ev_ll, ev_ol, ev_lo, ev_oo, ev_ln, ev_lno, ev_on, ev_ono, in_ps, in_row, gEq, gNe, gIn, gNotIn, g1, g2, gLen, gList, δof, List.getElem?_cons_zero, List.getElem?_cons_succ, List.getElem?_nil, List.set_cons_zero, List.set_cons_succ, List.map_cons, List.map_nil, List.length_cons, List.length_nil, List.replicate_succ, List.replicate_zero, List.cons_append, List.nil_append, Option.bind_some, Option.bind_none, List.all_cons, List.all_nil, List.append_nil, Nat.reduceAdd, Nat.reduceSub, true_and, and_true, Bool.and_true, Bool.true_and, dCallX, dMethX, dCallV, dCallVX, dRaiseC, dDct, gd_un g, gd_pl g, gd_frz g]
      rw [decide_eq_false (by decide)]
      exact ⟨⟨rfl, rfl⟩, .int 2, d, rfl, ⟨rfl, g⟩, by rw [hd, Bool.and_false], h⟩
    · refine lt_f (by omega) (lt_t (by omega) ?_)
      simp only [m3, mK, dSeq, dIfS, dT, dTn, dTa, dTo, dOp, dVar, dC, dFz_eq, dCB, dCons, dNil, dCall, dCallB, dMeth, dMethB, dSet, dApp, dExt, dRet, dRetM, dNx, dDrop, dNeg, dAnd, dOr, dNot, dIf, dCh, dCh3, dU, dTup, dLst, dFld, dIsi, dIl, dIe, dIr1, dIr2, dIv1, dgN, dgT, putAll, dFor, dPar2, dPar3, dSetT, dLc, dYes, dSl, dNo, dSome, dRev, dNev, dSset, dCount, dIndex, dLrg1, dLrg2, dTwo, un_non, un_int, un_bl, un_str, un_lst, un_tup, un_obj, un_dct, un_scr, un_olst, un_oll, un_oobj, un_mv, un_m, un_p, pl_non, pl_int, pl_bl, pl_str, pl_lst, pl_tup, pl_obj, pl_dct, pl_scr, pl_m, pl_p, fzm_non, fzm_int, fzm_bl, fzm_lst, fzm_tup, fzm_obj, fzm_scr, fzm_olst, fzm_oll, fzm_oobj, fzm_m, frz_non, frz_int, frz_bl, frz_str, frz_lst, frz_tup, frz_obj, frz_dct, frz_scr, frz_olst, frz_oll, frz_m, fz_no, fz_tr, see_no, see_tr, asB_bl, asI_int, asgD_non, asgD_int, asgD_bl, asgD_lst, asgD_tup, asgD_obj, asgD_mv, asgD_m, it_lst, it_olst, it_scr, li_lst, li_olst, pit_lst, pit_scr, sz_lst, sz_olst, sz_oll, sz_scr, sz_tup, ad_int, ad_ll, ad_oo, ad_lo, ad_ol, mu_int, mu_l, mu_o, gI_int, gI0_int, gI2_int, ii_eqv, co_int, co_bl, co_non, co_row, co_rowO, co_nil, co_nilO, co_ps, co_p, co_p2, co_rows, ev_ll, ev_ol, ev_lo, ev_oo, ev_ln, ev_lno, ev_on, ev_ono, in_ps, in_row, gEq, gNe, gIn, gNotIn, g1, g2, gLen, gList, δof, List.getElem?_cons_zero, List.getElem?_cons_succ, List.getElem?_nil, List.set_cons_zero, List.set_cons_succ, List.map_cons, List.map_nil, List.length_cons, List.length_nil, List.replicate_succ, List.replicate_zero, List.cons_append, List.nil_append, Option.bind_some, Option.bind_none, List.all_cons, List.all_nil, List.append_nil, Nat.reduceAdd, Nat.reduceSub, true_and, and_true, Bool.and_true, Bool.true_and, dCallX, dMethX, dCallV, dCallVX, dRaiseC, dDct, gd_un g, gd_pl g, gd_frz g]
      rw [decide_eq_false (by decide)]
      refine ⟨by decide, rD [0], d, .int 1, rfl, ⟨rfl, g, rfl⟩, .inr (.inl ⟨rfl, by rw [hd, Bool.false_and], h⟩)⟩
    · refine lt_f (by omega) (lt_f (by omega) ?_)
      simp only [m3, mK, dSeq, dIfS, dT, dTn, dTa, dTo, dOp, dVar, dC, dFz_eq, dCB, dCons, dNil, dCall, dCallB, dMeth, dMethB, dSet, dApp, dExt, dRet, dRetM, dNx, dDrop, dNeg, dAnd, dOr, dNot, dIf, dCh, dCh3, dU, dTup, dLst, dFld, dIsi, dIl, dIe, dIr1, dIr2, dIv1, dgN, dgT, putAll, dFor, dPar2, dPar3, dSetT, dLc, dYes, dSl, dNo, dSome, dRev, dNev, dSset, dCount, dIndex, dLrg1, dLrg2, dTwo, un_non, un_int, un_bl, un_str, un_lst, un_tup, un_obj, un_dct, un_scr, un_olst, un_oll, un_oobj, un_mv, un_m, un_p, pl_non, pl_int, pl_bl, pl_str, pl_lst, pl_tup, pl_obj, pl_dct, pl_scr, pl_m, pl_p, fzm_non, fzm_int, fzm_bl, fzm_lst, fzm_tup, fzm_obj, fzm_scr, fzm_olst, fzm_oll, fzm_oobj, fzm_m, frz_non, frz_int, frz_bl, frz_str, frz_lst, frz_tup, frz_obj, frz_dct, frz_scr, frz_olst, frz_oll, frz_m, fz_no, fz_tr, see_no, see_tr, asB_bl, asI_int, asgD_non, asgD_int, asgD_bl, asgD_lst, asgD_tup, asgD_obj, asgD_mv, asgD_m, it_lst, it_olst, it_scr, li_lst, li_olst, pit_lst, pit_scr, sz_lst, sz_olst, sz_oll, sz_scr, sz_tup, ad_int, ad_ll, ad_oo, ad_lo, ad_ol, mu_int, mu_l, mu_o, gI_int, gI0_int, gI2_int, ii_eqv, co_int, co_bl, co_non, co_row, co_rowO, co_nil, co_nilO, co_ps, co_p, co_p2, co_rows, ev_ll, ev_ol, ev_lo, ev_oo, ev_ln, ev_lno, ev_on, ev_ono, in_ps, in_row, gEq, gNe, gIn, gNotIn, g1, g2, gLen, gList, δof, List.getElem?_cons_zero, List.getElem?_cons_succ, List.getElem?_nil, List.set_cons_zero, List.set_cons_succ, List.map_cons, List.map_nil, List.length_cons, List.length_nil, List.replicate_succ, List.replicate_zero, List.cons_append, List.nil_append, Option.bind_some, Option.bind_none, List.all_cons, List.all_nil, List.append_nil, Nat.reduceAdd, Nat.reduceSub, true_and, and_true, Bool.and_true, Bool.true_and, dCallX, dMethX, dCallV, dCallVX, dRaiseC, dDct, gd_un g, gd_pl g, gd_frz g]
      refine ⟨by decide, rD [0], .int 0, d, rfl, ⟨rfl, rfl, g⟩, .inr (.inl ⟨rfl, by rw [hd, Bool.and_false], h⟩)⟩
  · refine lt_f (by omega) (lt_f (by omega) (lt_f (by omega) (lt_f (by omega) (lt_f (by omega) (lt_t (by omega) ?_)))))
    simp only [m3, mK, dSeq, dIfS, dT, dTn, dTa, dTo, dOp, dVar, dC, dFz_eq, dCB, dCons, dNil, dCall, dCallB, dMeth, dMethB, dSet, dApp, dExt, dRet, dRetM, dNx, dDrop, dNeg, dAnd, dOr, dNot, dIf, dCh, dCh3, dU, dTup, dLst, dFld, dIsi, dIl, dIe, dIr1, dIr2, dIv1, dgN, dgT, putAll, dFor, dPar2, dPar3, dSetT, dLc, dYes, dSl, dNo, dSome, dRev, dNev, dSset, dCount, dIndex, dLrg1, dLrg2, dTwo, un_non, un_int, un_bl, un_str, un_lst, un_tup, un_obj, un_dct, un_scr, un_olst, un_oll, un_oobj, un_mv, un_m, un_p, pl_non, pl_int, pl_bl, pl_str, pl_lst, pl_tup, pl_obj, pl_dct, pl_scr, pl_m, pl_p, fzm_non, fzm_int, fzm_bl, fzm_lst, fzm_tup, fzm_obj, fzm_scr, fzm_olst, fzm_oll, fzm_oobj, fzm_m, frz_non, frz_int, frz_bl, frz_str, frz_lst, frz_tup, frz_obj, frz_dct, frz_scr, frz_olst, frz_oll, frz_m, fz_no, fz_tr, see_no, see_tr, asB_bl, asI_int, asgD_non, asgD_int, asgD_bl, asgD_lst, asgD_tup, asgD_obj, asgD_mv, asgD_m, it_lst, it_olst, it_scr, li_lst, li_olst, pit_lst, pit_scr, sz_lst, sz_olst, sz_oll, sz_scr, sz_tup, ad_int, ad_ll, ad_oo, ad_lo, ad_ol, mu_int, mu_l, mu_o, gI_int, gI0_int, gI2_int, ii_eqv, co_int, co_bl, co_non, co_row, co_rowO, co_nil, co_nilO, co_ps, co_p, co_p2, co_rows, ev_ll, ev_ol, ev_lo, ev_oo, ev_ln, ev_lno, ev_on, ev_ono, in_ps, in_row, gEq, gNe, gIn, gNotIn, g1, g2, gLen, gList, δof, List.getElem?_cons_zero, List.getElem?_cons_succ, List.getElem?_nil, List.set_cons_zero, List.set_cons_succ, List.map_cons, List.map_nil, List.length_cons, List.length_nil, List.replicate_succ, List.replicate_zero, List.cons_append, List.nil_append, Option.bind_some, Option.bind_none, List.all_cons, List.all_nil, List.append_nil, Nat.reduceAdd, Nat.reduceSub, true_and, and_true, Bool.and_true, Bool.true_and, dCallX, dMethX, dCallV, dCallVX, dRaiseC, dDct, gd_un g, gd_pl g, gd_frz g, decide_true]
    exact ⟨d, .int 0, .int 1, rfl, ⟨g, rfl, rfl⟩, .inl ⟨hd, h⟩⟩
  · refine lt_f (by omega) (lt_f (by omega) (lt_f (by omega) (lt_f (by omega) (lt_f (by omega) (lt_f (by omega) ?_)))))
    simp only [m3, mK, dSeq, dIfS, dT, dTn, dTa, dTo, dOp, dVar, dC, dFz_eq, dCB, dCons, dNil, dCall, dCallB, dMeth, dMethB, dSet, dApp, dExt, dRet, dRetM, dNx, dDrop, dNeg, dAnd, dOr, dNot, dIf, dCh, dCh3, dU, dTup, dLst, dFld, dIsi, dIl, dIe, dIr1, dIr2, dIv1, dgN, dgT, putAll, dFor, dPar2, dPar3, dSetT, dLc, dYes, dSl, dNo, dSome, dRev, dNev, dSset, dCount, dIndex, dLrg1, dLrg2, dTwo, un_non, un_int, un_bl, un_str, un_lst, un_tup, un_obj, un_dct, un_scr, un_olst, un_oll, un_oobj, un_mv, un_m, un_p, pl_non, pl_int, pl_bl, pl_str, pl_lst, pl_tup, pl_obj, pl_dct, pl_scr, pl_m, pl_p, fzm_non, fzm_int, fzm_bl, fzm_lst, fzm_tup, fzm_obj, fzm_scr, fzm_olst, fzm_oll, fzm_oobj, fzm_m, frz_non, frz_int, frz_bl, frz_str, frz_lst, frz_tup, frz_obj, frz_dct, frz_scr, frz_olst, frz_oll, frz_m, fz_no, fz_tr, see_no, see_tr, asB_bl, asI_int, asgD_non, asgD_int, asgD_bl, asgD_lst, asgD_tup, asgD_obj, asgD_mv, asgD_m, it_lst, it_olst, it_scr, li_lst, li_olst, pit_lst, pit_scr, sz_lst, sz_olst, sz_oll, sz_scr, sz_tup, ad_int, ad_ll, ad_oo, ad_lo, ad_ol, mu_int, mu_l, mu_o, gI_int, gI0_int, gI2_int, ii_eqv, co_int, co_bl, co_non, co_row, co_rowO, co_nil, co_nilO, co_ps, co_p, co_p2, co_rows, ev_ll, ev_ol, ev_lo, ev_oo, ev_ln, ev_lno, ev_on, ev_ono, in_ps, in_row, gEq, gNe, gIn, gNotIn, g1, g2, gLen, gList, δof, List.getElem?_cons_zero, List.getElem?_cons_succ, List.getElem?_nil, List.set_cons_zero, List.set_cons_succ, List.map_cons, List.map_nil, List.length_cons, List.length_nil, List.replicate_succ, List.replicate_zero, List.cons_append, List.nil_append, Option.bind_some, Option.bind_none, List.all_cons, List.all_nil, List.append_nil, Nat.reduceAdd, Nat.reduceSub, true_and, and_true, Bool.and_true, Bool.true_and, dCallX, dMethX, dCallV, dCallVX, dRaiseC, dDct]
    refine ⟨by decide, rD [0], .int 0, .int 2, rfl, ⟨rfl, rfl, rfl⟩, .inr (.inr (.inl ⟨rfl, rfl, rfl, h⟩))⟩
end J.X9
/-! R3: what is refused: whether it is refused by that class alone -/
namespace J.X9
open PySem PySem.Spec PyProof.Rows L2
def nN : Nat → Str
  | 0 => "BadMinds"
  | 1 => "BadRow"
  | 2 => "BadPlaces"
  | _ => "Minding"
/-- what is asked of the class c -/
structure One (K : PySem.W.Frag) (c : Nat) : Prop where
  ec : ExcC K (cN K c)
  exm : PySem.W.exmOne K (.ref (cN K c)) (.ref (_root_.He.ga K "DeedError")) = some true
  kit : ∀ j, j < 4 → PySem.W.kitOne K (.ref (cN K c)) (.ref (_root_.He.ga K (nN j))) = some (decide (j = c))
  val : PySem.W.kitOne K (.ref (cN K c)) (.type "ValueError") = some true
  own : OwnE K (cN K c)
def oneB (K : PySem.W.Frag) (c : Nat) : Bool := ecB K (cN K c) && (decide (PySem.W.exmOne K (.ref (cN K c)) (.ref (_root_.He.ga K "DeedError")) = some true) && (((List.range 4).all fun j => decide (PySem.W.kitOne K (.ref (cN K c)) (.ref (_root_.He.ga K (nN j))) = some (decide (j = c)))) &&
  (decide (PySem.W.kitOne K (.ref (cN K c)) (.type "ValueError") = some true) && ownB K (cN K c))))
theorem oneB_ok {K : PySem.W.Frag} {c : Nat} (h : oneB K c = true) : One K c := by
  unfold oneB at h
  obtain ⟨h1, h⟩ := Bool.and_eq_true_iff.mp h
  obtain ⟨h2, h⟩ := Bool.and_eq_true_iff.mp h
  obtain ⟨h3, h⟩ := Bool.and_eq_true_iff.mp h
  obtain ⟨h4, h5⟩ := Bool.and_eq_true_iff.mp h
  exact ⟨ecB_ok h1, of_decide_eq_true h2, fun j hj => of_decide_eq_true (List.all_eq_true.mp h3 j (List.mem_range.mpr hj)), of_decide_eq_true h4, ownB_ok h5⟩
def exB9 (K : PySem.W.Frag) : Bool := (List.range 3).all (oneB K)
structure Ok9 (K : PySem.W.Frag) : Prop where
  one : ∀ c, c < 3 → One K c
theorem exB9_ok {K : PySem.W.Frag} (h : exB9 K = true) : Ok9 K := ⟨fun c hc => oneB_ok (List.all_eq_true.mp h c (List.mem_range.mpr hc))⟩
theorem AskBad.lt {door : Int} {d : D} {c : Nat} (h : AskBad door d c) : c < 3 := by
  rcases h with ⟨_, _, rfl⟩ | ⟨_, _, rfl⟩ | ⟨_, _, rfl⟩ | ⟨_, _, rfl⟩ | ⟨_, _, rfl⟩ | ⟨_, _, rfl⟩ | ⟨_, _, rfl⟩ <;> decide
def G_law_due (_K : PySem.W.Frag) : GD := fun ds P => ∃ door d c, ds = [.int door, d, .int (c : Nat)] ∧ d.gd = true ∧ AskBad door d c ∧ P (.bl true)
abbrev N_law_due : List Str := ["_law_door", "_law_thing", "_law_due_here", "error", "_law_found", "_law_k"]
abbrev iE (K : PySem.W.Frag) (a : Addr) (cls : Value) (d : Option Addr) (c : V) : TE := tCB (rIsN K a cls d) (tCons (tVar 3) (tCons (tC c) tNil))
abbrev t_found (K : PySem.W.Frag) (a : Addr) (cls : Value) (d : Option Addr) : TE := tLst (tCons (iE K a cls d (.ref (_root_.He.ga K "BadMinds"))) (tCons (iE K a cls d (.ref (_root_.He.ga K "BadRow"))) (tCons (iE K a cls d (.ref (_root_.He.ga K "BadPlaces"))) tNil)))
abbrev t_ret (K : PySem.W.Frag) (a : Addr) (cls : Value) (d : Option Addr) : TE :=
  tAndV (tOp (rEqD K) (tOp (fun x y H Q => rI0 (fun i j => .int (i + j)) x y H Q ∨ rCat x y H Q) (tVar 4) (tLst (tCons (iE K a cls d (.ref (_root_.He.ga K "Minding"))) tNil))) (tLc (iRng1 (tCons (tC (.int 4)) tNil)) (gName 5) tYes (tOp (rEqD K) (tVar 5) (tVar 2)) [5])) (iE K a cls d (.ty "ValueError"))
def t_suite (K : PySem.W.Frag) : Addr → Value → Option Addr → TS := fun a cls d => tSeq (tAsg (t_found K a cls d) (gName 4)) (tRet (t_ret K a cls d))
def t_due (K : PySem.W.Frag) : TS := tSeq (fun D σ H => tDrop (tCallS (spXD K 2 (G_law_ask K)) (WE (wAs K (.ref (_root_.He.ga K "DeedError")) 3 (t_suite K) (fun _ _ _ _ => False) D)) (tCons (tVar 0) (tCons (tVar 1) tNil))) D σ H) (tRet (tC (.bl false)))
theorem snd_found {K : PySem.W.Frag} {C a : Addr} (x : ExcC K C) : SndE K (t_found K a (.ref C) none) (dFz (dLst (dCons (dIsN K C a (.ref (_root_.He.ga K "BadMinds")) (dVar 3)) (dCons (dIsN K C a (.ref (_root_.He.ga K "BadRow")) (dVar 3)) (dCons (dIsN K C a (.ref (_root_.He.ga K "BadPlaces")) (dVar 3)) dNil))))) :=
  snd_fz (snd_lst (snd_cons (snd_isN x (.own _) snd_var) (snd_cons (snd_isN x (.own _) snd_var) (snd_cons (snd_isN x (.own _) snd_var) snd_nil))))
theorem snd_ret {K : PySem.W.Frag} {C a : Addr} (x : ExcC K C) : SndE K (t_ret K a (.ref C) none) (dAnd (dOp gEq (dOp gAdd (dVar 4) (dLst (dCons (dIsN K C a (.ref (_root_.He.ga K "Minding")) (dVar 3)) dNil))) (dLc 5 (dIr1 (dCons (dC (.int 4)) dNil)) dYes (dOp gEq (dVar 5) (dVar 2)))) (dIsN K C a (.type "ValueError") (dVar 3))) :=
  snd_and (snd_op od_eq (snd_op od_add snd_var (snd_lst (snd_cons (snd_isN x (.own _) snd_var) snd_nil))) fun δ P h H0 H1 σ Q e env k => snd_lc (snd_r1 (snd_cons (snd_c fun _ => .int 4) snd_nil)) snd_yes (snd_op od_eq snd_var snd_var) h e env k) (snd_isN x (.ty _) snd_var)
theorem env6 {K : PySem.W.Frag} {H0 H : Hp} {v0 v1 v2 v3 v4 : V} {d2 d3 : D} {x4 : DV} (h2 : Rep K H0 v2 d2) (h3 : Rep K H0 v3 d3) (h4 : ∀ d, x4 = .tr d → Rep K H0 v4 d) {s4 : Option V} (hs : ∀ d, x4 = .tr d → s4 = some v4) :
    EnvE K H0 H [.no, .no, .tr d2, .tr d3, x4, .no] [some v0, some v1, some v2, some v3, s4, none] := by
  refine ⟨fun i d q => ?_, rfl⟩
  match i, q with
  | 0, q => cases q
  | 1, q => cases q
  | 2, q =>
    have e : d2 = d := Option.some.inj q
    subst e
    exact ⟨v2, [], rfl, .one (.leaf h2)⟩
  | 3, q =>
    have e : d3 = d := Option.some.inj q
    subst e
    exact ⟨v3, [], rfl, .one (.leaf h3)⟩
  | 4, q =>
    cases x4 with
    | no => cases q
    | tr z =>
      have e : z = d := Option.some.inj q
      subst e
      rw [hs z rfl]
      exact ⟨v4, [], rfl, .one (.leaf (h4 z rfl))⟩
  | 5, q => cases q
  | i + 6, q => cases q
theorem run_due {K : PySem.W.Frag} (x : Ok9 K) (vs : List V) (H : Hp) (Q : VK) (E : XK) (h : spD K 3 (G_law_due K) vs H Q E) : t_due K { nx := fun _ H' => Q .non H', rt := Q } (L2.start N_law_due vs) H := by
  obtain ⟨hl, ds, P, H0, ⟨door, d, c, rfl, g, hb, hP⟩, e, r, k⟩ := h
  obtain ⟨v0, v1, v2, rfl⟩ : ∃ v0 v1 v2, vs = [v0, v1, v2] := by
    match vs, hl with
    | [v0, v1, v2], _ => exact ⟨v0, v1, v2, rfl⟩
  have hc := hb.lt
  have x := x.one c hc
  cases r with
  | cons r0 r =>
  cases r with
  | cons r1 r =>
  cases r with
  | cons r2 r =>
  refine ⟨v0, rfl, v1, rfl, rfl, [.int door, d], fun _ => False, fun C => C = cN K c, H0, ⟨door, d, c, rfl, g, hb, rfl⟩, e, .cons r0 (.cons r1 .nil), fun _ _ _ _ z => z.elim, fun C H1 hC s1 => ?_⟩
  subst hC
  refine ⟨true, x.exm, fun _ a na => ?_, fun z => Bool.noConfusion z⟩
  have e1 : Same H0 H1 := e.trans s1
  rw [show (L2.start N_law_due [v0, v1, v2]).set 3 (some (.ref a)) = [some v0, some v1, some v2, some (.ref a), none, none] from rfl]
  show t_found K a (.ref (cN K c)) none [some v0, some v1, some v2, some (.ref a), none, none] H1 fun v G => t_ret K a (.ref (cN K c)) none [some v0, some v1, some v2, some (.ref a), some v, none] G Q
  refine snd_found (a := a) x.ec [.no, .no, .tr (.int (c : Nat)), .tr (.fn a), .no, .no] (fun y => y = .lst [.bl (decide (0 = c)), .bl (decide (1 = c)), .bl (decide (2 = c))]) ?_ H0 H1 _ _ e1 (env6 (v0 := v0) (v1 := v1) (v3 := .ref a) (v4 := .non) (s4 := none) r2 (.fn a) (fun _ z => by cases z) (fun _ z => by cases z)) fun v y G0 G hy s ry => ?_
  · simp only [dSeq, dIfS, dT, dTn, dTa, dTo, dOp, dVar, dC, dFz_eq, dCB, dCons, dNil, dCall, dCallB, dMeth, dMethB, dSet, dApp, dExt, dRet, dRetM, dNx, dDrop, dNeg, dAnd, dOr, dNot, dIf, dCh, dCh3, dU, dTup, dLst, dFld, dIsi, dIl, dIe, dIr1, dIr2, dIv1, dgN, dgT, putAll, dFor, dPar2, dPar3, dSetT, dLc, dYes, dSl, dNo, dSome, dRev, dNev, dSset, dCount, dIndex, dLrg1, dLrg2, dTwo, un_non, un_int, un_bl, un_str, un_lst, un_tup, un_obj, un_dct, un_scr, un_olst, un_oll, un_oobj, un_mv, un_m, un_p, pl_non, pl_int, pl_bl, pl_str, pl_lst, pl_tup, pl_obj, pl_dct, pl_scr, pl_m, pl_p, fzm_non, fzm_int, fzm_bl, fzm_lst, fzm_tup, fzm_obj, fzm_scr, fzm_olst, fzm_oll, fzm_oobj, fzm_m, frz_non, frz_int, frz_bl, frz_str, frz_lst, frz_tup, frz_obj, frz_dct, frz_scr, frz_olst, frz_oll, frz_m, fz_no, fz_tr, see_no, see_tr, asB_bl, asI_int, asgD_non, asgD_int, asgD_bl, asgD_lst, asgD_tup, asgD_obj, asgD_mv, asgD_m, it_lst, it_olst, it_scr, li_lst, li_olst, pit_lst, pit_scr, sz_lst, sz_olst, sz_oll, sz_scr, sz_tup, ad_int, ad_ll, ad_oo, ad_lo, ad_ol, mu_int, mu_l, mu_o, gI_int, gI0_int, gI2_int, ii_eqv, co_int, co_bl, co_non, co_row, co_rowO, co_nil, co_nilO, co_ps, co_p, co_p2, co_rows, ev_ll, ev_ol, ev_lo, ev_oo, ev_ln, ev_lno, ev_on, ev_ono, in_ps, in_row, gEq, gNe, gIn, gNotIn, g1, g2, gLen, gList, δof, List.getElem?_cons_zero, List.getElem?_cons_succ, List.getElem?_nil, List.set_cons_zero, List.set_cons_succ, List.map_cons, List.map_nil, List.length_cons, List.length_nil, List.replicate_succ, List.replicate_zero, List.cons_append, List.nil_append, Option.bind_some, Option.bind_none, List.all_cons, List.all_nil, List.append_nil, Nat.reduceAdd, Nat.reduceSub, true_and, and_true, Bool.and_true, Bool.true_and, dCallX, dMethX, dCallV, dCallVX, dRaiseC, dDct, dIsN]
    exact ⟨rfl, _, x.kit 0 (by decide), rfl, _, x.kit 1 (by decide), rfl, _, x.kit 2 (by decide), by decide, rfl⟩
  · subst hy
    have r4 := ry.rep_of rfl
    refine snd_ret (a := a) x.ec [.no, .no, .tr (.int (c : Nat)), .tr (.fn a), .tr (.lst [.bl (decide (0 = c)), .bl (decide (1 = c)), .bl (decide (2 = c))]), .no] P ?_ G0 G _ _ s.e2 (env6 (v0 := v0) (v1 := v1) (v3 := .ref a) (v4 := v) (s4 := some v) (r2.to s.e0) (.fn a) (fun d z => by cases z; exact r4) (fun _ _ => rfl)) ?_
    · obtain rfl | rfl | rfl : c = 0 ∨ c = 1 ∨ c = 2 := by omega
      all_goals
        simp only [dSeq, dIfS, dT, dTn, dTa, dTo, dOp, dVar, dC, dFz_eq, dCB, dCons, dNil, dCall, dCallB, dMeth, dMethB, dSet, dApp, dExt, dRet, dRetM, dNx, dDrop, dNeg, dAnd, dOr, dNot, dIf, dCh, dCh3, dU, dTup, dLst, dFld, dIsi, dIl, dIe, dIr1, dIr2, dIv1, dgN, dgT, putAll, dFor, dPar2, dPar3, dSetT, dLc, dYes, dSl, dNo, dSome, dRev, dNev, dSset, dCount, dIndex, dLrg1, dLrg2, dTwo, un_non, un_int, un_bl, un_str, un_lst, un_tup, un_obj, un_dct, un_scr, un_olst, un_oll, un_oobj, un_mv, un_m, un_p, pl_non, pl_int, pl_bl, pl_str, pl_lst, pl_tup, pl_obj, pl_dct, pl_scr, pl_m, pl_p, fzm_non, fzm_int, fzm_bl, fzm_lst, fzm_tup, fzm_obj, fzm_scr, fzm_olst, fzm_oll, fzm_oobj, fzm_m, frz_non, frz_int, frz_bl, frz_str, frz_lst, frz_tup, frz_obj, frz_dct, frz_scr, frz_olst, frz_oll, frz_m, fz_no, fz_tr, see_no, see_tr, asB_bl, asI_int, asgD_non, asgD_int, asgD_bl, asgD_lst, asgD_tup, asgD_obj, asgD_mv, asgD_m, it_lst, it_olst, it_scr, li_lst, li_olst, pit_lst, pit_scr, sz_lst, sz_olst, sz_oll, sz_scr, sz_tup, ad_int, ad_ll, ad_oo, ad_lo, ad_ol, mu_int, mu_l, mu_o, gI_int, gI0_int, gI2_int, ii_eqv, co_int, co_bl, co_non, co_row, co_rowO, co_nil, co_nilO, co_ps, co_p, co_p2, co_rows, ev_ll, ev_ol, ev_lo, ev_oo, ev_ln, ev_lno, ev_on, ev_ono, in_ps, in_row, gEq, gNe, gIn, gNotIn, g1, g2, gLen, gList, δof, List.getElem?_cons_zero, List.getElem?_cons_succ, List.getElem?_nil, List.set_cons_zero, List.set_cons_succ, List.map_cons, List.map_nil, List.length_cons, List.length_nil, List.replicate_succ, List.replicate_zero, List.cons_append, List.nil_append, Option.bind_some, Option.bind_none, List.all_cons, List.all_nil, List.append_nil, Nat.reduceAdd, Nat.reduceSub, true_and, and_true, Bool.and_true, Bool.true_and, dCallX, dMethX, dCallV, dCallVX, dRaiseC, dDct, dIsN]
        refine ⟨rfl, _, x.kit 3 (by decide), by decide, by decide, by decide, by decide, ?_⟩
        show compGo 5 dYes _ _ [.int 0, .int 1, .int 2, .int 3] [] _
        refine ⟨rfl, rfl, rfl, by decide, ?_⟩
        refine ⟨rfl, rfl, rfl, by decide, ?_⟩
        refine ⟨rfl, rfl, rfl, by decide, ?_⟩
        refine ⟨rfl, rfl, rfl, by decide, ?_⟩
        refine ⟨rfl, rfl, ?_⟩
        exact ⟨rfl, true, x.val, hP⟩
    · exact k.after ⟨s1.trans s.e1, s.e0, s.e2, fun a o q n => s1.free (s.fr a o q n)⟩
end J.X9
/-! R4: what is refused: the law -/
namespace J.X9
open PySem PySem.Spec PyProof.Rows L2
def cntT (c : Int) : List D := [.non, .int 0, .int (-1), .int (-1 - c.fmod 9), .bl true, .str "3", .lst [.int 3], .tup [.int 3]]
def prsT (c : Int) : List D := [.non, .tup [], .str "01", .dct [], .lst [.non], .lst [.tup [.int 0]], .lst [.tup [.int 0, .int 1, .int 2]], .lst [.lst [.int 0, .int 1]], .lst [.tup [.int 1, .int 0]], .lst [.tup [.int 1, .int 1]], .lst [.tup [.int 0, .int 3]], .lst [.tup [.int (-1), .int 0]],
  .lst [.tup [.int 0, .bl true]], .lst [.tup [.int 0, .int 1], .tup [.int 0, .int 1]], .lst [.tup [.str "0", .int 1]], .lst [.tup [.int 0, .int 1], .tup [.int 0, .int (3 + c.fmod 9)]], .lst [.int 5], .int c, .int 5, .lst [.tup [.int 0, .int 1], .tup [.int 1, .int 2], .tup [.int 0, .int 1]]]
def rwsT (c : Int) : List D := [.non, .tup [.int 0, .int 1], .str "01", .dct [], .lst [.non], .lst [.int 3], .lst [.int (-1)], .lst [.bl true], .lst [.str "0"], .lst [.lst [.int 0]], .lst [.int 0, .int 3], .int c, .int 5, .lst [.int 0, .int 1, .int (3 + c.fmod 9)],
  .lst [.int (-1 - c.fmod 9)], .lst [.int 0, .int 1, .int 2, .non]]
def plcT (c : Int) : List D := [.non, .tup [], .str "0", .dct [], .lst [.non], .lst [.int 2], .lst [.int (-1)], .lst [.bl true], .lst [.str "0"], .lst [.int 1, .int 2], .int c, .lst [.int 1, .int (3 + c.fmod 9)], .lst [.lst [.int 0]],
  .lst [.int (-1 - c.fmod 9)], .lst [.int 0, .int 2]]
def kndT (c : Int) : List D := [.non, .int (-1), .int 3, .int (3 + c.fmod 9), .int (-1 - c.fmod 9), .bl true, .str "0", .lst [.int 0]]
theorem f9 (c : Int) : 0 ≤ c.fmod 9 := Int.fmod_nonneg_of_pos c (by decide)
theorem cnt_bad (c : Int) : ∀ d ∈ cntT c, d.gd = true ∧ cntB d = false := by
  have := f9 c
  simp only [cntT, List.forall_mem_cons]
  refine ⟨⟨rfl, rfl⟩, ⟨rfl, rfl⟩, ⟨rfl, rfl⟩, ⟨rfl, decide_eq_false (by omega)⟩, ⟨rfl, rfl⟩, ⟨rfl, rfl⟩, ⟨rfl, rfl⟩, ⟨rfl, rfl⟩, fun _ h => by cases h⟩
theorem knd_bad (c : Int) : ∀ d ∈ kndT c, d.gd = true ∧ kndB d = false := by
  have := f9 c
  simp only [kndT, List.forall_mem_cons]
  refine ⟨⟨rfl, rfl⟩, ⟨rfl, rfl⟩, ⟨rfl, rfl⟩, ⟨rfl, decide_eq_false (by omega)⟩, ⟨rfl, decide_eq_false (by omega)⟩, ⟨rfl, rfl⟩, ⟨rfl, rfl⟩, ⟨rfl, rfl⟩, fun _ h => by cases h⟩
theorem kf1 {c : Int} : kndB (.int (3 + c.fmod 9)) = false := decide_eq_false (by have := f9 c; omega)
theorem kf2 {c : Int} : kndB (.int (-1 - c.fmod 9)) = false := decide_eq_false (by have := f9 c; omega)
theorem pf1 {c : Int} : plB (.int (3 + c.fmod 9)) = false := decide_eq_false (by have := f9 c; omega)
theorem pf2 {c : Int} : plB (.int (-1 - c.fmod 9)) = false := decide_eq_false (by have := f9 c; omega)
theorem qf1 {c : Int} : prB 3 (.tup [.int 0, .int (3 + c.fmod 9)]) = false := decide_eq_false (by have := f9 c; omega)
theorem row_bad (c : Int) : ∀ d ∈ rwsT c, d.gd = true ∧ rowB d = false := by
  simp only [rwsT, List.forall_mem_cons]
  refine ⟨⟨rfl, rfl⟩, ⟨rfl, rfl⟩, ⟨rfl, rfl⟩, ⟨rfl, rfl⟩, ⟨rfl, rfl⟩, ⟨rfl, rfl⟩, ⟨rfl, rfl⟩, ⟨rfl, rfl⟩, ⟨rfl, rfl⟩, ⟨rfl, rfl⟩, ⟨rfl, rfl⟩, ⟨rfl, rfl⟩, ⟨rfl, rfl⟩, ⟨rfl, ?_⟩, ⟨rfl, ?_⟩, ⟨rfl, rfl⟩, fun _ h => by cases h⟩
  · show (true && (true && (kndB _ && true))) = false
    rw [kf1]
    rfl
  · show (kndB _ && true) = false
    rw [kf2]
    rfl
theorem plsB {es : List D} (h : es.all plB = false) : PlsBad (.lst es) := fun es' e => by
  cases e
  exact h
theorem plsN {d : D} (h : d.isL = false) : PlsBad d := fun es e => by
  subst e
  cases h
theorem plc_bad (c : Int) : ∀ d ∈ plcT c, d.gd = true ∧ PlsBad d := by
  simp only [plcT, List.forall_mem_cons]
  refine ⟨⟨rfl, plsN rfl⟩, ⟨rfl, plsN rfl⟩, ⟨rfl, plsN rfl⟩, ⟨rfl, plsN rfl⟩, ⟨rfl, plsB rfl⟩, ⟨rfl, plsB rfl⟩, ⟨rfl, plsB rfl⟩, ⟨rfl, plsB rfl⟩, ⟨rfl, plsB rfl⟩, ⟨rfl, plsB rfl⟩, ⟨rfl, plsN rfl⟩, ⟨rfl, plsB ?_⟩, ⟨rfl, plsB rfl⟩, ⟨rfl, plsB ?_⟩, ⟨rfl, plsB rfl⟩, fun _ h => by cases h⟩
  · show (true && (plB _ && true)) = false
    rw [pf1]
    rfl
  · show (plB _ && true) = false
    rw [pf2]
    rfl
theorem prsN {d : D} (h : d.isL = false) : PrsBad d := .inl h
theorem prsB {es : List D} (h : es.all (prB 3) = false) : PrsBad (.lst es) := .inr ⟨es, rfl, .inl h⟩
theorem prs_bad (c : Int) : ∀ d ∈ prsT c, d.gd = true ∧ PrsBad d := by
  simp only [prsT, List.forall_mem_cons]
  refine ⟨⟨rfl, prsN rfl⟩, ⟨rfl, prsN rfl⟩, ⟨rfl, prsN rfl⟩, ⟨rfl, prsN rfl⟩, ⟨rfl, prsB rfl⟩, ⟨rfl, prsB rfl⟩, ⟨rfl, prsB rfl⟩, ⟨rfl, prsB rfl⟩, ⟨rfl, prsB rfl⟩, ⟨rfl, prsB rfl⟩, ⟨rfl, prsB rfl⟩, ⟨rfl, prsB rfl⟩,
    ⟨rfl, prsB rfl⟩, ⟨rfl, .inr ⟨_, rfl, .inr ⟨rfl, [(0, 1), (0, 1)], rfl, by decide, by decide⟩⟩⟩, ⟨rfl, prsB rfl⟩, ⟨rfl, prsB ?_⟩, ⟨rfl, prsB rfl⟩, ⟨rfl, prsN rfl⟩, ⟨rfl, prsN rfl⟩, ⟨rfl, .inr ⟨_, rfl, .inr ⟨rfl, [(0, 1), (1, 2), (0, 1)], rfl, by decide, by decide⟩⟩⟩, fun _ h => by cases h⟩
  show (true && (prB 3 _ && true)) = false
  rw [qf1]
  rfl
def thG (T : Int → List D) : GD := fun ds P => ∃ c, ds = [.int c] ∧ P (.mv (.olst (T c)))
def G_law_counts (_K : PySem.W.Frag) : GD := thG cntT
def G_law_bad_pairs (_K : PySem.W.Frag) : GD := thG prsT
def G_law_bad_rows (_K : PySem.W.Frag) : GD := thG rwsT
def G_law_bad_places (_K : PySem.W.Frag) : GD := thG plcT
def G_law_bad_kinds (_K : PySem.W.Frag) : GD := thG kndT
def HV_law (K : PySem.W.Frag) : Addr → GD → Prop := fun f G => (f = _root_.He.ga K "_law_counts" ∧ G = G_law_counts K) ∨ (f = _root_.He.ga K "_law_bad_pairs" ∧ G = G_law_bad_pairs K) ∨ (f = _root_.He.ga K "_law_bad_rows" ∧ G = G_law_bad_rows K) ∨ (f = _root_.He.ga K "_law_bad_places" ∧ G = G_law_bad_places K) ∨ (f = _root_.He.ga K "_law_bad_kinds" ∧ G = G_law_bad_kinds K)
/-! ### law_counts -/
abbrev N_law_counts : List Str := ["_law_cell"]
def T_law_counts (K : PySem.W.Frag) : DS := (dRet (dLst (dCons (dC .non) (dCons (dC (.int 0)) (dCons (dNeg (dC (.int 1))) (dCons (dFz (dOp (gI0 fun i j => .int (i - j)) (dNeg (dC (.int 1))) (dOp (gI (fun _ j => j ≠ 0) fun i j => .int (i.fmod j)) (dVar 0) (dC (.int 9))))) (dCons (dC (.bl true)) (dCons (dC (.str "3")) (dCons (dFz (dLst (dCons (dC (.int 3)) dNil))) (dCons (dTup (dCons (dC (.int 3)) dNil)) dNil))))))))))
/-! ### law_bad_pairs -/
abbrev N_law_bad_pairs : List Str := ["_law_cell", "_law_some"]
def T_law_bad_pairs (K : PySem.W.Frag) : DS := (dSeq (dSet 1 (dFz (dLst (dCons (dC .non) (dCons (dTup dNil) (dCons (dC (.str "01")) (dCons dDct (dCons (dFz (dLst (dCons (dC .non) dNil))) (dCons (dFz (dLst (dCons (dTup (dCons (dC (.int 0)) dNil)) dNil))) (dCons (dFz (dLst (dCons (dTup (dCons (dC (.int 0)) (dCons (dC (.int 1)) (dCons (dC (.int 2)) dNil)))) dNil))) (dCons (dFz (dLst (dCons (dFz (dLst (dCons (dC (.int 0)) (dCons (dC (.int 1)) dNil)))) dNil))) (dCons (dFz (dLst (dCons (dTup (dCons (dC (.int 1)) (dCons (dC (.int 0)) dNil))) dNil))) (dCons (dFz (dLst (dCons (dTup (dCons (dC (.int 1)) (dCons (dC (.int 1)) dNil))) dNil))) (dCons (dFz (dLst (dCons (dTup (dCons (dC (.int 0)) (dCons (dC (.int 3)) dNil))) dNil))) (dCons (dFz (dLst (dCons (dTup (dCons (dNeg (dC (.int 1))) (dCons (dC (.int 0)) dNil))) dNil))) dNil)))))))))))))))
  (dSeq (dSet 1 (dFz (dOp gAdd (dVar 1) (dLst (dCons (dFz (dLst (dCons (dTup (dCons (dC (.int 0)) (dCons (dC (.bl true)) dNil))) dNil))) (dCons (dFz (dLst (dCons (dTup (dCons (dC (.int 0)) (dCons (dC (.int 1)) dNil))) (dCons (dTup (dCons (dC (.int 0)) (dCons (dC (.int 1)) dNil))) dNil)))) (dCons (dFz (dLst (dCons (dTup (dCons (dC (.str "0")) (dCons (dC (.int 1)) dNil))) dNil))) (dCons (dFz (dLst (dCons (dTup (dCons (dC (.int 0)) (dCons (dC (.int 1)) dNil))) (dCons (dTup (dCons (dC (.int 0)) (dCons (dFz (dOp gAdd (dC (.int 3)) (dOp (gI (fun _ j => j ≠ 0) fun i j => .int (i.fmod j)) (dVar 0) (dC (.int 9))))) dNil))) dNil)))) (dCons (dFz (dLst (dCons (dC (.int 5)) dNil))) (dCons (dVar 0) (dCons (dC (.int 5)) dNil)))))))))))
  (dRet (dOp gAdd (dVar 1) (dLst (dCons (dFz (dLst (dCons (dTup (dCons (dC (.int 0)) (dCons (dC (.int 1)) dNil))) (dCons (dTup (dCons (dC (.int 1)) (dCons (dC (.int 2)) dNil))) (dCons (dTup (dCons (dC (.int 0)) (dCons (dC (.int 1)) dNil))) dNil))))) dNil))))))
/-! ### law_bad_rows -/
abbrev N_law_bad_rows : List Str := ["_law_cell", "_law_some"]
def T_law_bad_rows (K : PySem.W.Frag) : DS := (dSeq (dSet 1 (dFz (dLst (dCons (dC .non) (dCons (dTup (dCons (dC (.int 0)) (dCons (dC (.int 1)) dNil))) (dCons (dC (.str "01")) (dCons dDct (dCons (dFz (dLst (dCons (dC .non) dNil))) (dCons (dFz (dLst (dCons (dC (.int 3)) dNil))) (dCons (dFz (dLst (dCons (dNeg (dC (.int 1))) dNil))) (dCons (dFz (dLst (dCons (dC (.bl true)) dNil))) (dCons (dFz (dLst (dCons (dC (.str "0")) dNil))) (dCons (dFz (dLst (dCons (dFz (dLst (dCons (dC (.int 0)) dNil))) dNil))) (dCons (dFz (dLst (dCons (dC (.int 0)) (dCons (dC (.int 3)) dNil)))) (dCons (dVar 0) (dCons (dC (.int 5)) (dCons (dFz (dLst (dCons (dC (.int 0)) (dCons (dC (.int 1)) (dCons (dFz (dOp gAdd (dC (.int 3)) (dOp (gI (fun _ j => j ≠ 0) fun i j => .int (i.fmod j)) (dVar 0) (dC (.int 9))))) dNil))))) dNil)))))))))))))))))
  (dRet (dOp gAdd (dVar 1) (dLst (dCons (dFz (dLst (dCons (dFz (dOp (gI0 fun i j => .int (i - j)) (dNeg (dC (.int 1))) (dOp (gI (fun _ j => j ≠ 0) fun i j => .int (i.fmod j)) (dVar 0) (dC (.int 9))))) dNil))) (dCons (dFz (dLst (dCons (dC (.int 0)) (dCons (dC (.int 1)) (dCons (dC (.int 2)) (dCons (dC .non) dNil)))))) dNil))))))
/-! ### law_bad_places -/
abbrev N_law_bad_places : List Str := ["_law_cell", "_law_some"]
def T_law_bad_places (K : PySem.W.Frag) : DS := (dSeq (dSet 1 (dFz (dLst (dCons (dC .non) (dCons (dTup dNil) (dCons (dC (.str "0")) (dCons dDct (dCons (dFz (dLst (dCons (dC .non) dNil))) (dCons (dFz (dLst (dCons (dC (.int 2)) dNil))) (dCons (dFz (dLst (dCons (dNeg (dC (.int 1))) dNil))) (dCons (dFz (dLst (dCons (dC (.bl true)) dNil))) (dCons (dFz (dLst (dCons (dC (.str "0")) dNil))) (dCons (dFz (dLst (dCons (dC (.int 1)) (dCons (dC (.int 2)) dNil)))) (dCons (dVar 0) (dCons (dFz (dLst (dCons (dC (.int 1)) (dCons (dFz (dOp gAdd (dC (.int 3)) (dOp (gI (fun _ j => j ≠ 0) fun i j => .int (i.fmod j)) (dVar 0) (dC (.int 9))))) dNil)))) (dCons (dFz (dLst (dCons (dFz (dLst (dCons (dC (.int 0)) dNil))) dNil))) dNil))))))))))))))))
  (dRet (dOp gAdd (dVar 1) (dLst (dCons (dFz (dLst (dCons (dFz (dOp (gI0 fun i j => .int (i - j)) (dNeg (dC (.int 1))) (dOp (gI (fun _ j => j ≠ 0) fun i j => .int (i.fmod j)) (dVar 0) (dC (.int 9))))) dNil))) (dCons (dFz (dLst (dCons (dC (.int 0)) (dCons (dC (.int 2)) dNil)))) dNil))))))
/-! ### law_bad_kinds -/
abbrev N_law_bad_kinds : List Str := ["_law_cell"]
def T_law_bad_kinds (K : PySem.W.Frag) : DS := (dRet (dLst (dCons (dC .non) (dCons (dNeg (dC (.int 1))) (dCons (dC (.int 3)) (dCons (dFz (dOp gAdd (dC (.int 3)) (dOp (gI (fun _ j => j ≠ 0) fun i j => .int (i.fmod j)) (dVar 0) (dC (.int 9))))) (dCons (dFz (dOp (gI0 fun i j => .int (i - j)) (dNeg (dC (.int 1))) (dOp (gI (fun _ j => j ≠ 0) fun i j => .int (i.fmod j)) (dVar 0) (dC (.int 9))))) (dCons (dC (.bl true)) (dCons (dC (.str "0")) (dCons (dFz (dLst (dCons (dC (.int 0)) dNil))) dNil))))))))))
/-! ### law -/
abbrev N_law : List Str := ["_law_script", "_law_kinds", "_law_doors", "_law_things", "_law_due_here", "_law_door", "_law_thing", "_law_cell", "_law_some"]
def T_law_c1 (K : PySem.W.Frag) : DE := (dFz (dCall (G_law_due K) (dCons (dVar 5) (dCons (dVar 6) (dCons (dVar 4) dNil)))))
def T_law_f2 (K : PySem.W.Frag) : DS := (dIfS (dTn (dT (dCB gAll (dCons (dLc 6 (dIl (dFz (dCallV (HV_law K) (dVar 3) (dCons (dFz (dCB gLen (dCons (dVar 0) dNil))) dNil)))) dYes (T_law_c1 K)) dNil)))) (dRet (dC (.bl false))) dNx)
def T_law_f3 (K : PySem.W.Frag) : DS := (dSeq (dSet 8 (dFz (dCallV (HV_law K) (dVar 3) (dCons (dFz (dOp (gI (fun _ j => j ≠ 0) fun i j => .int (i.fmod j)) (dVar 7) (dOp (gI CPow fun i j => .int (i ^ j.toNat)) (dC (.int 10)) (dC (.int 60))))) dNil))))
  (dIfS (dTn (dT (dCall (G_law_due K) (dCons (dOp gIx (dVar 2) (dOp (gI (fun _ j => j ≠ 0) fun i j => .int (i.fmod j)) (dVar 7) (dCB gLen (dCons (dVar 2) dNil)))) (dCons (dOp gIx (dVar 8) (dOp (gI (fun _ j => j ≠ 0) fun i j => .int (i.fmod j)) (dOp (gI CDivN fun i j => .int (i.fdiv j)) (dVar 7) (dCB gLen (dCons (dVar 2) dNil))) (dCB gLen (dCons (dVar 8) dNil)))) (dCons (dVar 4) dNil)))))) (dRet (dC (.bl false))) dNx))
def T_law_f4 (K : PySem.W.Frag) : DS := (dSeq (dFor (dIl (dVar 2)) (dgN 5) (T_law_f2 K))
  (dFor (dIl (dVar 0)) (dgN 7) (T_law_f3 K)))
def T_law (K : PySem.W.Frag) : DS := (dSeq (dSet 1 (dFz (dLst (dCons (dTup (dCons (dFz (dLst (dCons (dC (.int 0)) dNil))) (dCons (dC (.fn (_root_.He.ga K "_law_counts"))) (dCons (dC (.int 0)) dNil)))) (dCons (dTup (dCons (dFz (dLst (dCons (dC (.int 1)) dNil))) (dCons (dC (.fn (_root_.He.ga K "_law_bad_pairs"))) (dCons (dC (.int 0)) dNil)))) (dCons (dTup (dCons (dFz (dOp gAdd (dLrg2 (dC (.int 2)) (dC (.int 14))) (dLst (dCons (dC (.int 17)) dNil)))) (dCons (dC (.fn (_root_.He.ga K "_law_bad_rows"))) (dCons (dC (.int 1)) dNil)))) dNil))))))
  (dSeq (dSet 1 (dFz (dOp gAdd (dVar 1) (dLst (dCons (dTup (dCons (dFz (dLst (dCons (dC (.int 14)) dNil))) (dCons (dC (.fn (_root_.He.ga K "_law_bad_places"))) (dCons (dC (.int 2)) dNil)))) (dCons (dTup (dCons (dFz (dLst (dCons (dC (.int 15)) (dCons (dC (.int 16)) (dCons (dC (.int 18)) (dCons (dC (.int 19)) dNil)))))) (dCons (dC (.fn (_root_.He.ga K "_law_bad_kinds"))) (dCons (dC (.int 1)) dNil)))) dNil))))))
  (dSeq (dFor (dIl (dVar 1)) (dgT [2, 3, 4]) (T_law_f4 K))
  (dRet (dAnd (dCall (G_law_due K) (dCons (dC (.int 19)) (dCons (dC (.int 2)) (dCons (dC (.int 1)) dNil)))) (dOp gEq (dCallX (G_had K) (fun _ => False) (dCons (dFz (dCallX (G_Minds_init K) (fun _ => False) (dCons (dC (.int 3)) (dCons (dFz (dLst (dCons (dTup (dCons (dC (.int 0)) (dCons (dC (.int 1)) dNil))) dNil))) dNil)))) (dCons (dFz (dLst (dCons (dC (.int 1)) (dCons (dC (.int 2)) (dCons (dC (.int 0)) (dCons (dC (.int 1)) dNil)))))) (dCons (dC (.int 0)) (dCons (dC (.int 1)) dNil))))) (dLst (dCons (dC (.int 1)) (dCons (dC (.int 0)) (dCons (dC (.int 1)) dNil))))))))))
end J.X9
/-! R5: what is refused: the things, the law's walk -/
namespace J.X9
open PySem PySem.Spec PyProof.Rows L2
theorem n9 : (9 : Int) ≠ 0 := by decide
theorem ln {a b : Nat} (h : Nat.ble a b = true) : a ≤ b := Nat.le_of_ble_eq_true h
theorem rd_law_counts {K : PySem.W.Frag} : ∀ ds Q, G_law_counts K ds Q → T_law_counts K { nx := fun _ => Q .non, rt := Q } (δof N_law_counts.length ds) := by
  rintro _ Q ⟨c, rfl, h⟩
  refine ⟨n9, ?_⟩
  refine ⟨rfl, ln rfl, ?_⟩
  refine ⟨rfl, ln rfl, ?_⟩
  refine ⟨rfl, ln rfl, ?_⟩
  exact h
theorem rd_law_bad_pairs {K : PySem.W.Frag} : ∀ ds Q, G_law_bad_pairs K ds Q → T_law_bad_pairs K { nx := fun _ => Q .non, rt := Q } (δof N_law_bad_pairs.length ds) := by
  rintro _ Q ⟨c, rfl, h⟩
  refine ⟨rfl, ln rfl, ?_⟩
  refine ⟨rfl, ln rfl, ?_⟩
  refine ⟨rfl, ln rfl, ?_⟩
  refine ⟨rfl, ln rfl, ?_⟩
  refine ⟨rfl, ln rfl, ?_⟩
  refine ⟨rfl, ln rfl, ?_⟩
  refine ⟨rfl, ln rfl, ?_⟩
  refine ⟨rfl, ln rfl, ?_⟩
  refine ⟨rfl, ln rfl, ?_⟩
  refine ⟨rfl, ln rfl, ?_⟩
  refine ⟨rfl, ln rfl, ?_⟩
  refine ⟨rfl, ln rfl, ?_⟩
  refine ⟨rfl, ln rfl, ?_⟩
  refine ⟨rfl, ln rfl, ?_⟩
  refine ⟨rfl, ln rfl, ?_⟩
  refine ⟨rfl, ln rfl, ?_⟩
  refine ⟨rfl, ln rfl, ?_⟩
  skip
  refine ⟨rfl, ln rfl, ?_⟩
  refine ⟨rfl, ln rfl, ?_⟩
  refine ⟨rfl, ln rfl, ?_⟩
  refine ⟨rfl, ln rfl, ?_⟩
  refine ⟨rfl, ln rfl, ?_⟩
  refine ⟨rfl, ln rfl, ?_⟩
  refine ⟨rfl, ln rfl, ?_⟩
  refine ⟨rfl, ln rfl, ?_⟩
  refine ⟨n9, ?_⟩
  refine ⟨rfl, ln rfl, ?_⟩
  refine ⟨rfl, ln rfl, ?_⟩
  refine ⟨rfl, ln rfl, ?_⟩
  refine ⟨rfl, ln rfl, ?_⟩
  refine ⟨ln rfl, ?_⟩
  skip
  refine ⟨rfl, ln rfl, ?_⟩
  refine ⟨rfl, ln rfl, ?_⟩
  refine ⟨rfl, ln rfl, ?_⟩
  refine ⟨rfl, ln rfl, ?_⟩
  refine ⟨rfl, ln rfl, ?_⟩
  refine ⟨ln rfl, ?_⟩
  exact h
theorem rd_law_bad_rows {K : PySem.W.Frag} : ∀ ds Q, G_law_bad_rows K ds Q → T_law_bad_rows K { nx := fun _ => Q .non, rt := Q } (δof N_law_bad_rows.length ds) := by
  rintro _ Q ⟨c, rfl, h⟩
  refine ⟨rfl, ln rfl, ?_⟩
  refine ⟨rfl, ln rfl, ?_⟩
  refine ⟨rfl, ln rfl, ?_⟩
  refine ⟨rfl, ln rfl, ?_⟩
  refine ⟨rfl, ln rfl, ?_⟩
  refine ⟨rfl, ln rfl, ?_⟩
  refine ⟨rfl, ln rfl, ?_⟩
  refine ⟨rfl, ln rfl, ?_⟩
  refine ⟨rfl, ln rfl, ?_⟩
  refine ⟨n9, ?_⟩
  refine ⟨rfl, ln rfl, ?_⟩
  refine ⟨rfl, ln rfl, ?_⟩
  skip
  refine ⟨n9, ?_⟩
  refine ⟨rfl, ln rfl, ?_⟩
  refine ⟨rfl, ln rfl, ?_⟩
  refine ⟨rfl, ln rfl, ?_⟩
  refine ⟨ln rfl, ?_⟩
  exact h
theorem rd_law_bad_places {K : PySem.W.Frag} : ∀ ds Q, G_law_bad_places K ds Q → T_law_bad_places K { nx := fun _ => Q .non, rt := Q } (δof N_law_bad_places.length ds) := by
  rintro _ Q ⟨c, rfl, h⟩
  refine ⟨rfl, ln rfl, ?_⟩
  refine ⟨rfl, ln rfl, ?_⟩
  refine ⟨rfl, ln rfl, ?_⟩
  refine ⟨rfl, ln rfl, ?_⟩
  refine ⟨rfl, ln rfl, ?_⟩
  refine ⟨rfl, ln rfl, ?_⟩
  refine ⟨rfl, ln rfl, ?_⟩
  refine ⟨n9, ?_⟩
  refine ⟨rfl, ln rfl, ?_⟩
  refine ⟨rfl, ln rfl, ?_⟩
  refine ⟨rfl, ln rfl, ?_⟩
  refine ⟨rfl, ln rfl, ?_⟩
  skip
  refine ⟨n9, ?_⟩
  refine ⟨rfl, ln rfl, ?_⟩
  refine ⟨rfl, ln rfl, ?_⟩
  refine ⟨rfl, ln rfl, ?_⟩
  refine ⟨ln rfl, ?_⟩
  exact h
theorem rd_law_bad_kinds {K : PySem.W.Frag} : ∀ ds Q, G_law_bad_kinds K ds Q → T_law_bad_kinds K { nx := fun _ => Q .non, rt := Q } (δof N_law_bad_kinds.length ds) := by
  rintro _ Q ⟨c, rfl, h⟩
  refine ⟨n9, ?_⟩
  refine ⟨n9, ?_⟩
  refine ⟨rfl, ln rfl, ?_⟩
  refine ⟨rfl, ln rfl, ?_⟩
  exact h
end J.X9
/-! R6: what is refused: the law's walk -/
namespace J.X9
open PySem PySem.Spec PyProof.Rows L2
/-- a row of the law's table: doors, things, the class that is due -/
def RowOk (K : PySem.W.Frag) (e : D) : Prop := ∃ (doors : List Int) (f : Addr) (T : Int → List D) (c : Nat), e = .tup [rD doors, .fn f, .int (c : Nat)] ∧ HV_law K f (thG T) ∧ (doors ≠ [] ∧ doors.length ≤ 1000) ∧ (∀ x, T x ≠ [] ∧ (T x).length ≤ 1000) ∧ (∀ door ∈ doors, ∀ x, ∀ d ∈ T x, d.gd = true ∧ AskBad door d c)
theorem fm {i : Int} {n : Nat} (h : 0 < n) : ∃ k : Nat, k < n ∧ i.fmod (n : Int) = (k : Int) := by
  have h1 := Int.fmod_nonneg_of_pos i (show (0 : Int) < (n : Int) by omega)
  have h2 := Int.fmod_lt_of_pos i (show (0 : Int) < (n : Int) by omega)
  exact ⟨(i.fmod n).toNat, by omega, by omega⟩
section
variable {K : PySem.W.Frag} {E : EndsD} {ns : List Int} {tb dr : D} {f : Addr} {T : Int → List D} {c : Nat} {e6 e7 e8 : DV}
theorem law_f2 (hv : HV_law K f (thG T)) (hT : ∀ x, T x ≠ [] ∧ (T x).length ≤ 1000) (hE : ∀ e5, E.nx [.tr (.scr ns), .tr tb, .tr dr, .tr (.fn f), .tr (.int (c : Nat)), e5, e6, e7, e8]) : ∀ (ds : List Int) (e5 : DV), (∀ door ∈ ds, ∀ x, ∀ d ∈ T x, d.gd = true ∧ AskBad door d c) →
    forGo (dgN 5) (T_law_f2 K) E (ds.map .int) [.tr (.scr ns), .tr tb, .tr dr, .tr (.fn f), .tr (.int (c : Nat)), e5, e6, e7, e8]
  | [], e5, _ => hE e5
  | door :: ds, e5, h => by
    refine forGo_op fun N hN => ?_
    simp only [T_law_f2, dSeq, dIfS, dT, dTn, dTa, dTo, dOp, dVar, dC, dFz_eq, dCB, dCons, dNil, dCall, dCallB, dMeth, dMethB, dSet, dApp, dExt, dRet, dRetM, dNx, dDrop, dNeg, dAnd, dOr, dNot, dIf, dCh, dCh3, dU, dTup, dLst, dFld, dIsi, dIl, dIe, dIr1, dIr2, dIv1, dgN, dgT, putAll, dFor, dPar2, dPar3, dSetT, dLc, dYes, dSl, dNo, dSome, dRev, dNev, dSset, dCount, dIndex, dLrg1, dLrg2, dTwo, un_non, un_int, un_bl, un_str, un_lst, un_tup, un_obj, un_dct, un_scr, un_olst, un_oll, un_oobj, un_mv, un_m, un_p, pl_non, pl_int, pl_bl, pl_str, pl_lst, pl_tup, pl_obj, pl_dct, pl_scr, pl_m, pl_p, fzm_non, fzm_int, fzm_bl, fzm_lst, fzm_tup, fzm_obj, fzm_scr, fzm_olst, fzm_oll, fzm_oobj, fzm_m, frz_non, frz_int, frz_bl, frz_str, frz_lst, frz_tup, frz_obj, frz_dct, frz_scr, frz_olst, frz_oll, frz_m, fz_no, fz_tr, see_no, see_tr, asB_bl, asI_int, asgD_non, asgD_int, asgD_bl, asgD_lst, asgD_tup, asgD_obj, asgD_mv, asgD_m, it_lst, it_olst, it_scr, li_lst, li_olst, pit_lst, pit_scr, sz_lst, sz_olst, sz_oll, sz_scr, sz_tup, ad_int, ad_ll, ad_oo, ad_lo, ad_ol, mu_int, mu_l, mu_o, gI_int, gI0_int, gI2_int, ii_eqv, co_int, co_bl, co_non, co_row, co_rowO, co_nil, co_nilO, co_ps, co_p, co_p2, co_rows, ev_ll, ev_ol, ev_lo, ev_oo, ev_ln, ev_lno, ev_on, ev_ono, in_ps, in_row, gEq, gNe, gIn, gNotIn, g1, g2, gLen, gList, δof, List.getElem?_cons_zero, List.getElem?_cons_succ, List.getElem?_nil, List.set_cons_zero, List.set_cons_succ, List.map_cons, List.map_nil, List.length_cons, List.length_nil, List.replicate_succ, List.replicate_zero, List.cons_append, List.nil_append, Option.bind_some, Option.bind_none, List.all_cons, List.all_nil, List.append_nil, Nat.reduceAdd, Nat.reduceSub, true_and, and_true, Bool.and_true, Bool.true_and, dCallX, dMethX, dCallV, dCallVX, dRaiseC, dDct]
    refine ⟨f, _, rfl, hv, ⟨_, rfl, ?_⟩⟩
    show compGo 6 dYes (T_law_c1 K) _ (T (ns.length : Nat)) [] _
    refine cgD (f := fun _ => .bl true) _ (fun e he R hR => ?_) (fun _ => rfl) (by have := (hT (ns.length : Nat)).2; omega) ?_
    · obtain ⟨g, b⟩ := h door List.mem_cons_self _ e he
      simp only [T_law_c1, dSeq, dIfS, dT, dTn, dTa, dTo, dOp, dVar, dC, dFz_eq, dCB, dCons, dNil, dCall, dCallB, dMeth, dMethB, dSet, dApp, dExt, dRet, dRetM, dNx, dDrop, dNeg, dAnd, dOr, dNot, dIf, dCh, dCh3, dU, dTup, dLst, dFld, dIsi, dIl, dIe, dIr1, dIr2, dIv1, dgN, dgT, putAll, dFor, dPar2, dPar3, dSetT, dLc, dYes, dSl, dNo, dSome, dRev, dNev, dSset, dCount, dIndex, dLrg1, dLrg2, dTwo, un_non, un_int, un_bl, un_str, un_lst, un_tup, un_obj, un_dct, un_scr, un_olst, un_oll, un_oobj, un_mv, un_m, un_p, pl_non, pl_int, pl_bl, pl_str, pl_lst, pl_tup, pl_obj, pl_dct, pl_scr, pl_m, pl_p, fzm_non, fzm_int, fzm_bl, fzm_lst, fzm_tup, fzm_obj, fzm_scr, fzm_olst, fzm_oll, fzm_oobj, fzm_m, frz_non, frz_int, frz_bl, frz_str, frz_lst, frz_tup, frz_obj, frz_dct, frz_scr, frz_olst, frz_oll, frz_m, fz_no, fz_tr, see_no, see_tr, asB_bl, asI_int, asgD_non, asgD_int, asgD_bl, asgD_lst, asgD_tup, asgD_obj, asgD_mv, asgD_m, it_lst, it_olst, it_scr, li_lst, li_olst, pit_lst, pit_scr, sz_lst, sz_olst, sz_oll, sz_scr, sz_tup, ad_int, ad_ll, ad_oo, ad_lo, ad_ol, mu_int, mu_l, mu_o, gI_int, gI0_int, gI2_int, ii_eqv, co_int, co_bl, co_non, co_row, co_rowO, co_nil, co_nilO, co_ps, co_p, co_p2, co_rows, ev_ll, ev_ol, ev_lo, ev_oo, ev_ln, ev_lno, ev_on, ev_ono, in_ps, in_row, gEq, gNe, gIn, gNotIn, g1, g2, gLen, gList, δof, List.getElem?_cons_zero, List.getElem?_cons_succ, List.getElem?_nil, List.set_cons_zero, List.set_cons_succ, List.map_cons, List.map_nil, List.length_cons, List.length_nil, List.replicate_succ, List.replicate_zero, List.cons_append, List.nil_append, Option.bind_some, Option.bind_none, List.all_cons, List.all_nil, List.append_nil, Nat.reduceAdd, Nat.reduceSub, true_and, and_true, Bool.and_true, Bool.true_and, dCallX, dMethX, dCallV, dCallVX, dRaiseC, dDct, gd_un g, gd_pl g, gd_frz g]
      exact ⟨door, e, c, rfl, g, b, hR⟩
    · show gAll [.olst ((T (ns.length : Nat)).map fun _ => .bl true)] _
      refine ga_map (f := fun _ => true) ?_
      rw [show ((T (ns.length : Nat)).all fun _ => true) = true from List.all_eq_true.mpr fun _ _ => rfl]
      show N _
      rw [hN]
      exact law_f2 hv hT hE ds _ fun door' hd => h door' (List.mem_cons_of_mem _ hd)
theorem law_f3 (hv : HV_law K f (thG T)) (hT : ∀ x, T x ≠ [] ∧ (T x).length ≤ 1000) {doors : List Int} (hd : doors ≠ [] ∧ doors.length ≤ 1000) (h : ∀ door ∈ doors, ∀ x, ∀ d ∈ T x, d.gd = true ∧ AskBad door d c) {e5 : DV} (hE : ∀ e7 e8, E.nx [.tr (.scr ns), .tr tb, .tr (rD doors), .tr (.fn f), .tr (.int (c : Nat)), e5, e6, e7, e8]) : ∀ (cs : List Int) (e7 e8 : DV),
    forGo (dgN 7) (T_law_f3 K) E (cs.map .int) [.tr (.scr ns), .tr tb, .tr (rD doors), .tr (.fn f), .tr (.int (c : Nat)), e5, e6, e7, e8]
  | [], e7, e8 => hE e7 e8
  | x :: cs, e7, e8 => by
    refine forGo_op fun N hN => ?_
    simp only [T_law_f3, rD, dSeq, dIfS, dT, dTn, dTa, dTo, dOp, dVar, dC, dFz_eq, dCB, dCons, dNil, dCall, dCallB, dMeth, dMethB, dSet, dApp, dExt, dRet, dRetM, dNx, dDrop, dNeg, dAnd, dOr, dNot, dIf, dCh, dCh3, dU, dTup, dLst, dFld, dIsi, dIl, dIe, dIr1, dIr2, dIv1, dgN, dgT, putAll, dFor, dPar2, dPar3, dSetT, dLc, dYes, dSl, dNo, dSome, dRev, dNev, dSset, dCount, dIndex, dLrg1, dLrg2, dTwo, un_non, un_int, un_bl, un_str, un_lst, un_tup, un_obj, un_dct, un_scr, un_olst, un_oll, un_oobj, un_mv, un_m, un_p, pl_non, pl_int, pl_bl, pl_str, pl_lst, pl_tup, pl_obj, pl_dct, pl_scr, pl_m, pl_p, fzm_non, fzm_int, fzm_bl, fzm_lst, fzm_tup, fzm_obj, fzm_scr, fzm_olst, fzm_oll, fzm_oobj, fzm_m, frz_non, frz_int, frz_bl, frz_str, frz_lst, frz_tup, frz_obj, frz_dct, frz_scr, frz_olst, frz_oll, frz_m, fz_no, fz_tr, see_no, see_tr, asB_bl, asI_int, asgD_non, asgD_int, asgD_bl, asgD_lst, asgD_tup, asgD_obj, asgD_mv, asgD_m, it_lst, it_olst, it_scr, li_lst, li_olst, pit_lst, pit_scr, sz_lst, sz_olst, sz_oll, sz_scr, sz_tup, ad_int, ad_ll, ad_oo, ad_lo, ad_ol, mu_int, mu_l, mu_o, gI_int, gI0_int, gI2_int, ii_eqv, co_int, co_bl, co_non, co_row, co_rowO, co_nil, co_nilO, co_ps, co_p, co_p2, co_rows, ev_ll, ev_ol, ev_lo, ev_oo, ev_ln, ev_lno, ev_on, ev_ono, in_ps, in_row, gEq, gNe, gIn, gNotIn, g1, g2, gLen, gList, δof, List.getElem?_cons_zero, List.getElem?_cons_succ, List.getElem?_nil, List.set_cons_zero, List.set_cons_succ, List.map_cons, List.map_nil, List.length_cons, List.length_nil, List.replicate_succ, List.replicate_zero, List.cons_append, List.nil_append, Option.bind_some, Option.bind_none, List.all_cons, List.all_nil, List.append_nil, Nat.reduceAdd, Nat.reduceSub, true_and, and_true, Bool.and_true, Bool.true_and, dCallX, dMethX, dCallV, dCallVX, dRaiseC, dDct, List.length_map]
    refine ⟨f, _, rfl, hv, ⟨by decide, by decide, by decide⟩, by decide +kernel, ⟨_, rfl, ?_⟩⟩
    obtain ⟨hT1, hT2⟩ := hT (x.fmod (10 ^ Int.toNat 60))
    generalize x.fmod (10 ^ Int.toNat 60) = y at *
    have p1 := List.length_pos_iff.mpr hd.1
    have p2 := List.length_pos_iff.mpr hT1
    refine ⟨by omega, ?_⟩
    obtain ⟨k1, l1, q1⟩ := fm (i := x) p1
    obtain ⟨k2, l2, q2⟩ := fm (i := x.fdiv (doors.length : Nat)) p2
    rw [q1]
    refine ix_lst ⟨.int doors[k1], at_nat (by rw [List.getElem?_map, List.getElem?_eq_getElem l1]; rfl), ?_⟩
    refine ⟨⟨by omega, by omega⟩, ?_⟩
    refine ⟨show (((T y).length : Nat) : Int) ≠ 0 by omega, ?_⟩
    show gIx (.lst (T y)) (.int ((x.fdiv (doors.length : Nat)).fmod ((T y).length : Nat))) _
    rw [q2]
    refine ix_lst ⟨(T y)[k2], at_nat (List.getElem?_eq_getElem l2), ?_⟩
    obtain ⟨g, b⟩ := h doors[k1] (List.getElem_mem l1) y (T y)[k2] (List.getElem_mem l2)
    simp only [dSeq, dIfS, dT, dTn, dTa, dTo, dOp, dVar, dC, dFz_eq, dCB, dCons, dNil, dCall, dCallB, dMeth, dMethB, dSet, dApp, dExt, dRet, dRetM, dNx, dDrop, dNeg, dAnd, dOr, dNot, dIf, dCh, dCh3, dU, dTup, dLst, dFld, dIsi, dIl, dIe, dIr1, dIr2, dIv1, dgN, dgT, putAll, dFor, dPar2, dPar3, dSetT, dLc, dYes, dSl, dNo, dSome, dRev, dNev, dSset, dCount, dIndex, dLrg1, dLrg2, dTwo, un_non, un_int, un_bl, un_str, un_lst, un_tup, un_obj, un_dct, un_scr, un_olst, un_oll, un_oobj, un_mv, un_m, un_p, pl_non, pl_int, pl_bl, pl_str, pl_lst, pl_tup, pl_obj, pl_dct, pl_scr, pl_m, pl_p, fzm_non, fzm_int, fzm_bl, fzm_lst, fzm_tup, fzm_obj, fzm_scr, fzm_olst, fzm_oll, fzm_oobj, fzm_m, frz_non, frz_int, frz_bl, frz_str, frz_lst, frz_tup, frz_obj, frz_dct, frz_scr, frz_olst, frz_oll, frz_m, fz_no, fz_tr, see_no, see_tr, asB_bl, asI_int, asgD_non, asgD_int, asgD_bl, asgD_lst, asgD_tup, asgD_obj, asgD_mv, asgD_m, it_lst, it_olst, it_scr, li_lst, li_olst, pit_lst, pit_scr, sz_lst, sz_olst, sz_oll, sz_scr, sz_tup, ad_int, ad_ll, ad_oo, ad_lo, ad_ol, mu_int, mu_l, mu_o, gI_int, gI0_int, gI2_int, ii_eqv, co_int, co_bl, co_non, co_row, co_rowO, co_nil, co_nilO, co_ps, co_p, co_p2, co_rows, ev_ll, ev_ol, ev_lo, ev_oo, ev_ln, ev_lno, ev_on, ev_ono, in_ps, in_row, gEq, gNe, gIn, gNotIn, g1, g2, gLen, gList, δof, List.getElem?_cons_zero, List.getElem?_cons_succ, List.getElem?_nil, List.set_cons_zero, List.set_cons_succ, List.map_cons, List.map_nil, List.length_cons, List.length_nil, List.replicate_succ, List.replicate_zero, List.cons_append, List.nil_append, Option.bind_some, Option.bind_none, List.all_cons, List.all_nil, List.append_nil, Nat.reduceAdd, Nat.reduceSub, true_and, and_true, Bool.and_true, Bool.true_and, dCallX, dMethX, dCallV, dCallVX, dRaiseC, dDct, gd_un g, gd_pl g, gd_frz g]
    refine ⟨doors[k1], (T y)[k2], c, rfl, g, b, ?_⟩
    show N _
    rw [hN]
    exact law_f3 hv hT hd h hE cs _ _
theorem law_f4 (hE : ∀ e2 e3 e4 e5 e6 e7 e8, E.nx [.tr (.scr ns), .tr tb, e2, e3, e4, e5, e6, e7, e8]) : ∀ (es : List D) (e2 e3 e4 e5 e6 e7 e8 : DV), (∀ e ∈ es, RowOk K e) → forGo (dgT [2, 3, 4]) (T_law_f4 K) E es [.tr (.scr ns), .tr tb, e2, e3, e4, e5, e6, e7, e8]
  | [], e2, e3, e4, e5, e6, e7, e8, _ => hE e2 e3 e4 e5 e6 e7 e8
  | e :: es, e2, e3, e4, e5, e6, e7, e8, h => by
    refine forGo_op fun N hN => ?_
    obtain ⟨doors, f, T, c, rfl, hv, hd, hT, hb⟩ := h e List.mem_cons_self
    show forGo (dgN 5) (T_law_f2 K) _ (doors.map .int) [.tr (.scr ns), .tr tb, .tr (rD doors), .tr (.fn f), .tr (.int (c : Nat)), e5, e6, e7, e8]
    refine law_f2 hv hT (fun e5 => ?_) doors _ hb
    show forGo (dgN 7) (T_law_f3 K) _ (ns.map .int) [.tr (.scr ns), .tr tb, .tr (rD doors), .tr (.fn f), .tr (.int (c : Nat)), e5, e6, e7, e8]
    refine law_f3 hv hT hd hb (fun e7 e8 => ?_) ns _ _
    show N _
    rw [hN]
    exact law_f4 hE es _ _ _ _ _ _ _ fun e he => h e (List.mem_cons_of_mem _ he)
end
def rowD (K : PySem.W.Frag) (doors : List Int) (x : Str) (c : Nat) : D := .tup [rD doors, .fn (_root_.He.ga K x), .int (c : Nat)]
def tabD (K : PySem.W.Frag) : List D := [rowD K [0] "_law_counts" 0, rowD K [1] "_law_bad_pairs" 0, rowD K [2, 3, 4, 5, 6, 7, 8, 9, 10, 11, 12, 13, 17] "_law_bad_rows" 1, rowD K [14] "_law_bad_places" 2, rowD K [15, 16, 18, 19] "_law_bad_kinds" 1]
theorem tab_ok {K : PySem.W.Frag} : ∀ e ∈ tabD K, RowOk K e := by
  simp only [tabD, List.forall_mem_cons]
  refine ⟨⟨_, _, cntT, 0, rfl, .inl ⟨rfl, rfl⟩, ⟨by decide, by decide⟩, fun x => ⟨by unfold cntT; exact List.cons_ne_nil _ _, ln rfl⟩, ?_⟩, ⟨_, _, prsT, 0, rfl, .inr (.inl ⟨rfl, rfl⟩), ⟨by decide, by decide⟩, fun x => ⟨by unfold prsT; exact List.cons_ne_nil _ _, ln rfl⟩, ?_⟩,
    ⟨_, _, rwsT, 1, rfl, .inr (.inr (.inl ⟨rfl, rfl⟩)), ⟨by decide, by decide⟩, fun x => ⟨by unfold rwsT; exact List.cons_ne_nil _ _, ln rfl⟩, ?_⟩, ⟨_, _, plcT, 2, rfl, .inr (.inr (.inr (.inl ⟨rfl, rfl⟩))), ⟨by decide, by decide⟩, fun x => ⟨by unfold plcT; exact List.cons_ne_nil _ _, ln rfl⟩, ?_⟩,
    ⟨_, _, kndT, 1, rfl, .inr (.inr (.inr (.inr ⟨rfl, rfl⟩))), ⟨by decide, by decide⟩, fun x => ⟨by unfold kndT; exact List.cons_ne_nil _ _, ln rfl⟩, ?_⟩, fun _ h => by cases h⟩
  · intro door hd x d hx
    obtain ⟨g, b⟩ := cnt_bad x d hx
    exact ⟨g, .inl ⟨List.mem_singleton.mp hd, b, rfl⟩⟩
  · intro door hd x d hx
    obtain ⟨g, b⟩ := prs_bad x d hx
    exact ⟨g, .inr (.inl ⟨List.mem_singleton.mp hd, b, rfl⟩)⟩
  · intro door hd x d hx
    obtain ⟨g, b⟩ := row_bad x d hx
    have z : (2 ≤ door ∧ door < 14) ∨ door = 17 := by
      simp only [List.mem_cons, List.not_mem_nil, or_false] at hd
      omega
    rcases z with z | z
    · exact ⟨g, .inr (.inr (.inl ⟨z, b, rfl⟩))⟩
    · exact ⟨g, .inr (.inr (.inr (.inr (.inr (.inl ⟨z, b, rfl⟩)))))⟩
  · intro door hd x d hx
    obtain ⟨g, b⟩ := plc_bad x d hx
    exact ⟨g, .inr (.inr (.inr (.inl ⟨List.mem_singleton.mp hd, b, rfl⟩)))⟩
  · intro door hd x d hx
    obtain ⟨g, b⟩ := knd_bad x d hx
    simp only [List.mem_cons, List.not_mem_nil, or_false] at hd
    exact ⟨g, .inr (.inr (.inr (.inr (.inl ⟨hd, b, rfl⟩))))⟩
def G_law (_K : PySem.W.Frag) : GD := fun ds P => ∃ ns : List Int, ds = [.scr ns] ∧ ns.length ≤ 63 ∧ P (.bl true)
theorem rd_law {K : PySem.W.Frag} : ∀ ds Q, G_law K ds Q → T_law K { nx := fun _ => Q .non, rt := Q } (δof N_law.length ds) := by
  rintro _ Q ⟨ns, rfl, hn, h⟩
  refine ⟨rfl, ln rfl, ?_⟩
  refine ⟨rfl, ln rfl, ?_⟩
  refine ⟨rfl, ln rfl, ?_⟩
  refine ⟨rfl, ln rfl, ?_⟩
  refine ⟨by decide, by decide, by decide, by decide, ?_⟩
  refine ⟨rfl, ln rfl, ?_⟩
  refine ⟨ln rfl, ?_⟩
  refine ⟨rfl, ln rfl, ?_⟩
  refine ⟨rfl, ln rfl, ?_⟩
  refine ⟨rfl, ln rfl, ?_⟩
  refine ⟨rfl, ln rfl, ?_⟩
  refine ⟨rfl, ln rfl, ?_⟩
  refine ⟨rfl, ln rfl, ?_⟩
  refine ⟨rfl, ln rfl, ?_⟩
  refine ⟨ln rfl, ?_⟩
  show forGo (dgT [2, 3, 4]) (T_law_f4 K) _ (tabD K) [.tr (.scr ns), .tr (.lst (tabD K)), .no, .no, .no, .no, .no, .no, .no]
  refine law_f4 (fun e2 e3 e4 e5 e6 e7 e8 => ?_) (tabD K) _ _ _ _ _ _ _ tab_ok
  refine ⟨rfl, 19, .int 2, 1, rfl, rfl, .inr (.inr (.inr (.inr (.inr (.inr ⟨rfl, rfl, rfl⟩))))), ?_⟩
  refine ⟨rfl, ln rfl, ?_⟩
  refine ⟨rfl, ln rfl, ?_⟩
  refine ⟨rfl, .inl ⟨3, [(0, 1)], rfl, by decide, ok01, ?_⟩⟩
  refine ⟨rfl, ln rfl, ?_⟩
  refine ⟨rfl, rD [1, 2, 0, 1], .int 0, .int 1, rfl, ⟨rfl, rfl, rfl⟩, .inr (.inr (.inr ⟨rfl, rfl, rfl, ?_⟩))⟩
  refine ⟨rfl, ln rfl, ?_⟩
  exact ⟨rfl, rfl, h⟩
end J.X9
/-! the text of the law, def by def -/
namespace J.X9
open PySem PySem.Spec PyProof.Rows L2
def top (i : Nat) : Stmt := PySem.Challenge.pw_jostle_k09_refused.main.body.getD i (.Pass ⟨0, 0, 0, 0⟩)
abbrev s_is_number : Stmt := top 8
theorem sc_is_number : FnScope N_is_number ["thing"] (defScope s_is_number) := ⟨rfl, rfl, rfl, by decide +kernel, rfl, by decide +kernel, by decide +kernel⟩
abbrev s_is_pair : Stmt := top 9
theorem sc_is_pair : FnScope N_is_pair ["thing", "kinds"] (defScope s_is_pair) := ⟨rfl, rfl, rfl, by decide +kernel, rfl, by decide +kernel, by decide +kernel⟩
abbrev s_Minds_init : Stmt := inClass (top 10) 0
theorem sc_Minds_init : FnScope N_Minds_init ["self", "kinds", "pairs"] (defScope s_Minds_init) := ⟨rfl, rfl, rfl, by decide +kernel, rfl, by decide +kernel, by decide +kernel⟩
abbrev s_Minds_mind : Stmt := inClass (top 10) 2
theorem sc_Minds_mind : FnScope N_Minds_mind ["self", "one", "other"] (defScope s_Minds_mind) := ⟨rfl, rfl, rfl, by decide +kernel, rfl, by decide +kernel, by decide +kernel⟩
abbrev s_Minds_minding : Stmt := inClass (top 10) 3
theorem sc_Minds_minding : FnScope N_Minds_minding ["self", "one", "other"] (defScope s_Minds_minding) := ⟨rfl, rfl, rfl, by decide +kernel, rfl, by decide +kernel, by decide +kernel⟩
abbrev s_Minds_is_kind : Stmt := inClass (top 10) 4
theorem sc_Minds_is_kind : FnScope N_Minds_is_kind ["self", "thing"] (defScope s_Minds_is_kind) := ⟨rfl, rfl, rfl, by decide +kernel, rfl, by decide +kernel, by decide +kernel⟩
abbrev s_check_row : Stmt := top 11
theorem sc_check_row : FnScope N_check_row ["minds", "row"] (defScope s_check_row) := ⟨rfl, rfl, rfl, by decide +kernel, rfl, by decide +kernel, by decide +kernel⟩
abbrev s_exchanged : Stmt := top 12
theorem sc_exchanged : FnScope N_exchanged ["minds", "row", "places"] (defScope s_exchanged) := ⟨rfl, rfl, rfl, by decide +kernel, rfl, by decide +kernel, by decide +kernel⟩
abbrev s_part_of : Stmt := top 13
theorem sc_part_of : FnScope N_part_of ["row", "one", "other"] (defScope s_part_of) := ⟨rfl, rfl, rfl, by decide +kernel, rfl, by decide +kernel, by decide +kernel⟩
abbrev s_had : Stmt := top 14
theorem sc_had : FnScope N_had ["minds", "row", "one", "other"] (defScope s_had) := ⟨rfl, rfl, rfl, by decide +kernel, rfl, by decide +kernel, by decide +kernel⟩
abbrev s_check_two : Stmt := top 37
theorem sc_check_two : FnScope N_check_two ["minds", "one", "other"] (defScope s_check_two) := ⟨rfl, rfl, rfl, by decide +kernel, rfl, by decide +kernel, by decide +kernel⟩
abbrev s_alike : Stmt := top 38
theorem sc_alike : FnScope N_alike ["minds", "one", "other"] (defScope s_alike) := ⟨rfl, rfl, rfl, by decide +kernel, rfl, by decide +kernel, by decide +kernel⟩
abbrev s_begins : Stmt := top 39
theorem sc_begins : FnScope N_begins ["minds", "one", "other"] (defScope s_begins) := ⟨rfl, rfl, rfl, by decide +kernel, rfl, by decide +kernel, by decide +kernel⟩
abbrev s_together : Stmt := top 40
theorem sc_together : FnScope N_together ["minds", "one", "other"] (defScope s_together) := ⟨rfl, rfl, rfl, by decide +kernel, rfl, by decide +kernel, by decide +kernel⟩
abbrev s_common : Stmt := top 41
theorem sc_common : FnScope N_common ["minds", "one", "other"] (defScope s_common) := ⟨rfl, rfl, rfl, by decide +kernel, rfl, by decide +kernel, by decide +kernel⟩
abbrev s_firsts : Stmt := top 43
theorem sc_firsts : FnScope N_firsts ["minds", "row"] (defScope s_firsts) := ⟨rfl, rfl, rfl, by decide +kernel, rfl, by decide +kernel, by decide +kernel⟩
abbrev s_rounds : Stmt := top 45
theorem sc_rounds : FnScope N_rounds ["minds", "row"] (defScope s_rounds) := ⟨rfl, rfl, rfl, by decide +kernel, rfl, by decide +kernel, by decide +kernel⟩
abbrev s_least : Stmt := top 46
theorem sc_least : FnScope N_least ["minds", "row"] (defScope s_least) := ⟨rfl, rfl, rfl, by decide +kernel, rfl, by decide +kernel, by decide +kernel⟩
abbrev s_law_ask : Stmt := top 48
theorem sc_law_ask : FnScope N_law_ask ["_law_door", "_law_thing"] (defScope s_law_ask) := ⟨rfl, rfl, rfl, by decide +kernel, rfl, by decide +kernel, by decide +kernel⟩
abbrev s_law_due : Stmt := top 49
theorem sc_law_due : FnScope N_law_due ["_law_door", "_law_thing", "_law_due_here"] (defScope s_law_due) := ⟨rfl, rfl, rfl, by decide +kernel, rfl, by decide +kernel, by decide +kernel⟩
abbrev s_law_counts : Stmt := top 50
theorem sc_law_counts : FnScope N_law_counts ["_law_cell"] (defScope s_law_counts) := ⟨rfl, rfl, rfl, by decide +kernel, rfl, by decide +kernel, by decide +kernel⟩
abbrev s_law_bad_pairs : Stmt := top 51
theorem sc_law_bad_pairs : FnScope N_law_bad_pairs ["_law_cell"] (defScope s_law_bad_pairs) := ⟨rfl, rfl, rfl, by decide +kernel, rfl, by decide +kernel, by decide +kernel⟩
abbrev s_law_bad_rows : Stmt := top 52
theorem sc_law_bad_rows : FnScope N_law_bad_rows ["_law_cell"] (defScope s_law_bad_rows) := ⟨rfl, rfl, rfl, by decide +kernel, rfl, by decide +kernel, by decide +kernel⟩
abbrev s_law_bad_places : Stmt := top 53
theorem sc_law_bad_places : FnScope N_law_bad_places ["_law_cell"] (defScope s_law_bad_places) := ⟨rfl, rfl, rfl, by decide +kernel, rfl, by decide +kernel, by decide +kernel⟩
abbrev s_law_bad_kinds : Stmt := top 54
theorem sc_law_bad_kinds : FnScope N_law_bad_kinds ["_law_cell"] (defScope s_law_bad_kinds) := ⟨rfl, rfl, rfl, by decide +kernel, rfl, by decide +kernel, by decide +kernel⟩
abbrev s_law : Stmt := top 55
theorem sc_law : FnScope N_law ["_law_script"] (defScope s_law) := ⟨rfl, rfl, rfl, by decide +kernel, rfl, by decide +kernel, by decide +kernel⟩
theorem hn_is_number {K : PySem.W.Frag} : ∀ ds P, G_is_number K ds P → ds.length = 1 := fun ds P h => by first | (obtain ⟨rfl, _⟩ := h; rfl) | (obtain ⟨_, rfl, _⟩ := h; rfl) | (obtain ⟨_, _, rfl, _⟩ := h; rfl) | (obtain ⟨_, _, _, rfl, _⟩ := h; rfl) | (obtain ⟨_, _, _, _, rfl, _⟩ := h; rfl) | (obtain ⟨_, _, _, _, _, rfl, _⟩ := h; rfl) | (obtain ⟨_, _, _, _, _, _, rfl, _⟩ := h; rfl) | (obtain ⟨_, _, _, _, _, _, _, rfl, _⟩ := h; rfl) | (obtain ⟨_, _, _, _, _, _, _, _, rfl, _⟩ := h; rfl) | (obtain ⟨_, _, _, _, _, _, _, _, _, rfl, _⟩ := h; rfl)
theorem hn_is_pair {K : PySem.W.Frag} : ∀ ds P, G_is_pair K ds P → ds.length = 2 := fun ds P h => by first | (obtain ⟨rfl, _⟩ := h; rfl) | (obtain ⟨_, rfl, _⟩ := h; rfl) | (obtain ⟨_, _, rfl, _⟩ := h; rfl) | (obtain ⟨_, _, _, rfl, _⟩ := h; rfl) | (obtain ⟨_, _, _, _, rfl, _⟩ := h; rfl) | (obtain ⟨_, _, _, _, _, rfl, _⟩ := h; rfl) | (obtain ⟨_, _, _, _, _, _, rfl, _⟩ := h; rfl) | (obtain ⟨_, _, _, _, _, _, _, rfl, _⟩ := h; rfl) | (obtain ⟨_, _, _, _, _, _, _, _, rfl, _⟩ := h; rfl) | (obtain ⟨_, _, _, _, _, _, _, _, _, rfl, _⟩ := h; rfl)
theorem hn_Minds_init {K : PySem.W.Frag} : ∀ ds P R, G_Minds_init K ds P R → ds.length = 2 := fun ds P R h => by rcases h with ⟨_, _, rfl, _⟩ | ⟨_, _, rfl, _⟩ | ⟨_, _, rfl, _⟩ <;> rfl
theorem hn_Minds_mind {K : PySem.W.Frag} : ∀ ds P R, G_Minds_mind K ds P R → ds.length = 3 := fun ds P R h => by first | (obtain ⟨rfl, _⟩ := h; rfl) | (obtain ⟨_, rfl, _⟩ := h; rfl) | (obtain ⟨_, _, rfl, _⟩ := h; rfl) | (obtain ⟨_, _, _, rfl, _⟩ := h; rfl) | (obtain ⟨_, _, _, _, rfl, _⟩ := h; rfl) | (obtain ⟨_, _, _, _, _, rfl, _⟩ := h; rfl) | (obtain ⟨_, _, _, _, _, _, rfl, _⟩ := h; rfl) | (obtain ⟨_, _, _, _, _, _, _, rfl, _⟩ := h; rfl) | (obtain ⟨_, _, _, _, _, _, _, _, rfl, _⟩ := h; rfl) | (obtain ⟨_, _, _, _, _, _, _, _, _, rfl, _⟩ := h; rfl)
theorem hn_Minds_minding {K : PySem.W.Frag} : ∀ ds P, G_Minds_minding K ds P → ds.length = 3 := fun ds P h => by first | (obtain ⟨rfl, _⟩ := h; rfl) | (obtain ⟨_, rfl, _⟩ := h; rfl) | (obtain ⟨_, _, rfl, _⟩ := h; rfl) | (obtain ⟨_, _, _, rfl, _⟩ := h; rfl) | (obtain ⟨_, _, _, _, rfl, _⟩ := h; rfl) | (obtain ⟨_, _, _, _, _, rfl, _⟩ := h; rfl) | (obtain ⟨_, _, _, _, _, _, rfl, _⟩ := h; rfl) | (obtain ⟨_, _, _, _, _, _, _, rfl, _⟩ := h; rfl) | (obtain ⟨_, _, _, _, _, _, _, _, rfl, _⟩ := h; rfl) | (obtain ⟨_, _, _, _, _, _, _, _, _, rfl, _⟩ := h; rfl)
theorem hn_Minds_is_kind {K : PySem.W.Frag} : ∀ ds P, G_Minds_is_kind K ds P → ds.length = 2 := fun ds P h => by first | (obtain ⟨rfl, _⟩ := h; rfl) | (obtain ⟨_, rfl, _⟩ := h; rfl) | (obtain ⟨_, _, rfl, _⟩ := h; rfl) | (obtain ⟨_, _, _, rfl, _⟩ := h; rfl) | (obtain ⟨_, _, _, _, rfl, _⟩ := h; rfl) | (obtain ⟨_, _, _, _, _, rfl, _⟩ := h; rfl) | (obtain ⟨_, _, _, _, _, _, rfl, _⟩ := h; rfl) | (obtain ⟨_, _, _, _, _, _, _, rfl, _⟩ := h; rfl) | (obtain ⟨_, _, _, _, _, _, _, _, rfl, _⟩ := h; rfl) | (obtain ⟨_, _, _, _, _, _, _, _, _, rfl, _⟩ := h; rfl)
theorem hn_check_row {K : PySem.W.Frag} : ∀ ds P R, G_check_row K ds P R → ds.length = 2 := fun ds P R h => by first | (obtain ⟨rfl, _⟩ := h; rfl) | (obtain ⟨_, rfl, _⟩ := h; rfl) | (obtain ⟨_, _, rfl, _⟩ := h; rfl) | (obtain ⟨_, _, _, rfl, _⟩ := h; rfl) | (obtain ⟨_, _, _, _, rfl, _⟩ := h; rfl) | (obtain ⟨_, _, _, _, _, rfl, _⟩ := h; rfl) | (obtain ⟨_, _, _, _, _, _, rfl, _⟩ := h; rfl) | (obtain ⟨_, _, _, _, _, _, _, rfl, _⟩ := h; rfl) | (obtain ⟨_, _, _, _, _, _, _, _, rfl, _⟩ := h; rfl) | (obtain ⟨_, _, _, _, _, _, _, _, _, rfl, _⟩ := h; rfl)
theorem hn_exchanged {K : PySem.W.Frag} : ∀ ds P R, G_exchanged K ds P R → ds.length = 3 := fun ds P R h => by first | (obtain ⟨rfl, _⟩ := h; rfl) | (obtain ⟨_, rfl, _⟩ := h; rfl) | (obtain ⟨_, _, rfl, _⟩ := h; rfl) | (obtain ⟨_, _, _, rfl, _⟩ := h; rfl) | (obtain ⟨_, _, _, _, rfl, _⟩ := h; rfl) | (obtain ⟨_, _, _, _, _, rfl, _⟩ := h; rfl) | (obtain ⟨_, _, _, _, _, _, rfl, _⟩ := h; rfl) | (obtain ⟨_, _, _, _, _, _, _, rfl, _⟩ := h; rfl) | (obtain ⟨_, _, _, _, _, _, _, _, rfl, _⟩ := h; rfl) | (obtain ⟨_, _, _, _, _, _, _, _, _, rfl, _⟩ := h; rfl)
theorem hn_part_of {K : PySem.W.Frag} : ∀ ds P, G_part_of K ds P → ds.length = 3 := fun ds P h => by first | (obtain ⟨rfl, _⟩ := h; rfl) | (obtain ⟨_, rfl, _⟩ := h; rfl) | (obtain ⟨_, _, rfl, _⟩ := h; rfl) | (obtain ⟨_, _, _, rfl, _⟩ := h; rfl) | (obtain ⟨_, _, _, _, rfl, _⟩ := h; rfl) | (obtain ⟨_, _, _, _, _, rfl, _⟩ := h; rfl) | (obtain ⟨_, _, _, _, _, _, rfl, _⟩ := h; rfl) | (obtain ⟨_, _, _, _, _, _, _, rfl, _⟩ := h; rfl) | (obtain ⟨_, _, _, _, _, _, _, _, rfl, _⟩ := h; rfl) | (obtain ⟨_, _, _, _, _, _, _, _, _, rfl, _⟩ := h; rfl)
theorem hn_had {K : PySem.W.Frag} : ∀ ds P R, G_had K ds P R → ds.length = 4 := fun ds P R h => by first | (obtain ⟨rfl, _⟩ := h; rfl) | (obtain ⟨_, rfl, _⟩ := h; rfl) | (obtain ⟨_, _, rfl, _⟩ := h; rfl) | (obtain ⟨_, _, _, rfl, _⟩ := h; rfl) | (obtain ⟨_, _, _, _, rfl, _⟩ := h; rfl) | (obtain ⟨_, _, _, _, _, rfl, _⟩ := h; rfl) | (obtain ⟨_, _, _, _, _, _, rfl, _⟩ := h; rfl) | (obtain ⟨_, _, _, _, _, _, _, rfl, _⟩ := h; rfl) | (obtain ⟨_, _, _, _, _, _, _, _, rfl, _⟩ := h; rfl) | (obtain ⟨_, _, _, _, _, _, _, _, _, rfl, _⟩ := h; rfl)
theorem hn_check_two {K : PySem.W.Frag} : ∀ ds P R, G_check_two K ds P R → ds.length = 3 := fun ds P R h => by first | (obtain ⟨rfl, _⟩ := h; rfl) | (obtain ⟨_, rfl, _⟩ := h; rfl) | (obtain ⟨_, _, rfl, _⟩ := h; rfl) | (obtain ⟨_, _, _, rfl, _⟩ := h; rfl) | (obtain ⟨_, _, _, _, rfl, _⟩ := h; rfl) | (obtain ⟨_, _, _, _, _, rfl, _⟩ := h; rfl) | (obtain ⟨_, _, _, _, _, _, rfl, _⟩ := h; rfl) | (obtain ⟨_, _, _, _, _, _, _, rfl, _⟩ := h; rfl) | (obtain ⟨_, _, _, _, _, _, _, _, rfl, _⟩ := h; rfl) | (obtain ⟨_, _, _, _, _, _, _, _, _, rfl, _⟩ := h; rfl)
theorem hn_alike {K : PySem.W.Frag} : ∀ ds P R, G_alike K ds P R → ds.length = 3 := fun ds P R h => by first | (obtain ⟨rfl, _⟩ := h; rfl) | (obtain ⟨_, rfl, _⟩ := h; rfl) | (obtain ⟨_, _, rfl, _⟩ := h; rfl) | (obtain ⟨_, _, _, rfl, _⟩ := h; rfl) | (obtain ⟨_, _, _, _, rfl, _⟩ := h; rfl) | (obtain ⟨_, _, _, _, _, rfl, _⟩ := h; rfl) | (obtain ⟨_, _, _, _, _, _, rfl, _⟩ := h; rfl) | (obtain ⟨_, _, _, _, _, _, _, rfl, _⟩ := h; rfl) | (obtain ⟨_, _, _, _, _, _, _, _, rfl, _⟩ := h; rfl) | (obtain ⟨_, _, _, _, _, _, _, _, _, rfl, _⟩ := h; rfl)
theorem hn_begins {K : PySem.W.Frag} : ∀ ds P R, G_begins K ds P R → ds.length = 3 := fun ds P R h => by first | (obtain ⟨rfl, _⟩ := h; rfl) | (obtain ⟨_, rfl, _⟩ := h; rfl) | (obtain ⟨_, _, rfl, _⟩ := h; rfl) | (obtain ⟨_, _, _, rfl, _⟩ := h; rfl) | (obtain ⟨_, _, _, _, rfl, _⟩ := h; rfl) | (obtain ⟨_, _, _, _, _, rfl, _⟩ := h; rfl) | (obtain ⟨_, _, _, _, _, _, rfl, _⟩ := h; rfl) | (obtain ⟨_, _, _, _, _, _, _, rfl, _⟩ := h; rfl) | (obtain ⟨_, _, _, _, _, _, _, _, rfl, _⟩ := h; rfl) | (obtain ⟨_, _, _, _, _, _, _, _, _, rfl, _⟩ := h; rfl)
theorem hn_together {K : PySem.W.Frag} : ∀ ds P R, G_together K ds P R → ds.length = 3 := fun ds P R h => by first | (obtain ⟨rfl, _⟩ := h; rfl) | (obtain ⟨_, rfl, _⟩ := h; rfl) | (obtain ⟨_, _, rfl, _⟩ := h; rfl) | (obtain ⟨_, _, _, rfl, _⟩ := h; rfl) | (obtain ⟨_, _, _, _, rfl, _⟩ := h; rfl) | (obtain ⟨_, _, _, _, _, rfl, _⟩ := h; rfl) | (obtain ⟨_, _, _, _, _, _, rfl, _⟩ := h; rfl) | (obtain ⟨_, _, _, _, _, _, _, rfl, _⟩ := h; rfl) | (obtain ⟨_, _, _, _, _, _, _, _, rfl, _⟩ := h; rfl) | (obtain ⟨_, _, _, _, _, _, _, _, _, rfl, _⟩ := h; rfl)
theorem hn_common {K : PySem.W.Frag} : ∀ ds P R, G_common K ds P R → ds.length = 3 := fun ds P R h => by first | (obtain ⟨rfl, _⟩ := h; rfl) | (obtain ⟨_, rfl, _⟩ := h; rfl) | (obtain ⟨_, _, rfl, _⟩ := h; rfl) | (obtain ⟨_, _, _, rfl, _⟩ := h; rfl) | (obtain ⟨_, _, _, _, rfl, _⟩ := h; rfl) | (obtain ⟨_, _, _, _, _, rfl, _⟩ := h; rfl) | (obtain ⟨_, _, _, _, _, _, rfl, _⟩ := h; rfl) | (obtain ⟨_, _, _, _, _, _, _, rfl, _⟩ := h; rfl) | (obtain ⟨_, _, _, _, _, _, _, _, rfl, _⟩ := h; rfl) | (obtain ⟨_, _, _, _, _, _, _, _, _, rfl, _⟩ := h; rfl)
theorem hn_firsts {K : PySem.W.Frag} : ∀ ds P R, G_firsts K ds P R → ds.length = 2 := fun ds P R h => by first | (obtain ⟨rfl, _⟩ := h; rfl) | (obtain ⟨_, rfl, _⟩ := h; rfl) | (obtain ⟨_, _, rfl, _⟩ := h; rfl) | (obtain ⟨_, _, _, rfl, _⟩ := h; rfl) | (obtain ⟨_, _, _, _, rfl, _⟩ := h; rfl) | (obtain ⟨_, _, _, _, _, rfl, _⟩ := h; rfl) | (obtain ⟨_, _, _, _, _, _, rfl, _⟩ := h; rfl) | (obtain ⟨_, _, _, _, _, _, _, rfl, _⟩ := h; rfl) | (obtain ⟨_, _, _, _, _, _, _, _, rfl, _⟩ := h; rfl) | (obtain ⟨_, _, _, _, _, _, _, _, _, rfl, _⟩ := h; rfl)
theorem hn_rounds {K : PySem.W.Frag} : ∀ ds P R, G_rounds K ds P R → ds.length = 2 := fun ds P R h => by first | (obtain ⟨rfl, _⟩ := h; rfl) | (obtain ⟨_, rfl, _⟩ := h; rfl) | (obtain ⟨_, _, rfl, _⟩ := h; rfl) | (obtain ⟨_, _, _, rfl, _⟩ := h; rfl) | (obtain ⟨_, _, _, _, rfl, _⟩ := h; rfl) | (obtain ⟨_, _, _, _, _, rfl, _⟩ := h; rfl) | (obtain ⟨_, _, _, _, _, _, rfl, _⟩ := h; rfl) | (obtain ⟨_, _, _, _, _, _, _, rfl, _⟩ := h; rfl) | (obtain ⟨_, _, _, _, _, _, _, _, rfl, _⟩ := h; rfl) | (obtain ⟨_, _, _, _, _, _, _, _, _, rfl, _⟩ := h; rfl)
theorem hn_least {K : PySem.W.Frag} : ∀ ds P R, G_least K ds P R → ds.length = 2 := fun ds P R h => by first | (obtain ⟨rfl, _⟩ := h; rfl) | (obtain ⟨_, rfl, _⟩ := h; rfl) | (obtain ⟨_, _, rfl, _⟩ := h; rfl) | (obtain ⟨_, _, _, rfl, _⟩ := h; rfl) | (obtain ⟨_, _, _, _, rfl, _⟩ := h; rfl) | (obtain ⟨_, _, _, _, _, rfl, _⟩ := h; rfl) | (obtain ⟨_, _, _, _, _, _, rfl, _⟩ := h; rfl) | (obtain ⟨_, _, _, _, _, _, _, rfl, _⟩ := h; rfl) | (obtain ⟨_, _, _, _, _, _, _, _, rfl, _⟩ := h; rfl) | (obtain ⟨_, _, _, _, _, _, _, _, _, rfl, _⟩ := h; rfl)
theorem hn_law_ask {K : PySem.W.Frag} : ∀ ds P R, G_law_ask K ds P R → ds.length = 2 := fun ds P R h => by first | (obtain ⟨rfl, _⟩ := h; rfl) | (obtain ⟨_, rfl, _⟩ := h; rfl) | (obtain ⟨_, _, rfl, _⟩ := h; rfl) | (obtain ⟨_, _, _, rfl, _⟩ := h; rfl) | (obtain ⟨_, _, _, _, rfl, _⟩ := h; rfl) | (obtain ⟨_, _, _, _, _, rfl, _⟩ := h; rfl) | (obtain ⟨_, _, _, _, _, _, rfl, _⟩ := h; rfl) | (obtain ⟨_, _, _, _, _, _, _, rfl, _⟩ := h; rfl) | (obtain ⟨_, _, _, _, _, _, _, _, rfl, _⟩ := h; rfl) | (obtain ⟨_, _, _, _, _, _, _, _, _, rfl, _⟩ := h; rfl)
theorem hn_law_due {K : PySem.W.Frag} : ∀ ds P, G_law_due K ds P → ds.length = 3 := fun ds P h => by first | (obtain ⟨rfl, _⟩ := h; rfl) | (obtain ⟨_, rfl, _⟩ := h; rfl) | (obtain ⟨_, _, rfl, _⟩ := h; rfl) | (obtain ⟨_, _, _, rfl, _⟩ := h; rfl) | (obtain ⟨_, _, _, _, rfl, _⟩ := h; rfl) | (obtain ⟨_, _, _, _, _, rfl, _⟩ := h; rfl) | (obtain ⟨_, _, _, _, _, _, rfl, _⟩ := h; rfl) | (obtain ⟨_, _, _, _, _, _, _, rfl, _⟩ := h; rfl) | (obtain ⟨_, _, _, _, _, _, _, _, rfl, _⟩ := h; rfl) | (obtain ⟨_, _, _, _, _, _, _, _, _, rfl, _⟩ := h; rfl)
theorem hn_law_counts {K : PySem.W.Frag} : ∀ ds P, G_law_counts K ds P → ds.length = 1 := fun ds P h => by first | (obtain ⟨rfl, _⟩ := h; rfl) | (obtain ⟨_, rfl, _⟩ := h; rfl) | (obtain ⟨_, _, rfl, _⟩ := h; rfl) | (obtain ⟨_, _, _, rfl, _⟩ := h; rfl) | (obtain ⟨_, _, _, _, rfl, _⟩ := h; rfl) | (obtain ⟨_, _, _, _, _, rfl, _⟩ := h; rfl) | (obtain ⟨_, _, _, _, _, _, rfl, _⟩ := h; rfl) | (obtain ⟨_, _, _, _, _, _, _, rfl, _⟩ := h; rfl) | (obtain ⟨_, _, _, _, _, _, _, _, rfl, _⟩ := h; rfl) | (obtain ⟨_, _, _, _, _, _, _, _, _, rfl, _⟩ := h; rfl)
theorem hn_law_bad_pairs {K : PySem.W.Frag} : ∀ ds P, G_law_bad_pairs K ds P → ds.length = 1 := fun ds P h => by first | (obtain ⟨rfl, _⟩ := h; rfl) | (obtain ⟨_, rfl, _⟩ := h; rfl) | (obtain ⟨_, _, rfl, _⟩ := h; rfl) | (obtain ⟨_, _, _, rfl, _⟩ := h; rfl) | (obtain ⟨_, _, _, _, rfl, _⟩ := h; rfl) | (obtain ⟨_, _, _, _, _, rfl, _⟩ := h; rfl) | (obtain ⟨_, _, _, _, _, _, rfl, _⟩ := h; rfl) | (obtain ⟨_, _, _, _, _, _, _, rfl, _⟩ := h; rfl) | (obtain ⟨_, _, _, _, _, _, _, _, rfl, _⟩ := h; rfl) | (obtain ⟨_, _, _, _, _, _, _, _, _, rfl, _⟩ := h; rfl)
theorem hn_law_bad_rows {K : PySem.W.Frag} : ∀ ds P, G_law_bad_rows K ds P → ds.length = 1 := fun ds P h => by first | (obtain ⟨rfl, _⟩ := h; rfl) | (obtain ⟨_, rfl, _⟩ := h; rfl) | (obtain ⟨_, _, rfl, _⟩ := h; rfl) | (obtain ⟨_, _, _, rfl, _⟩ := h; rfl) | (obtain ⟨_, _, _, _, rfl, _⟩ := h; rfl) | (obtain ⟨_, _, _, _, _, rfl, _⟩ := h; rfl) | (obtain ⟨_, _, _, _, _, _, rfl, _⟩ := h; rfl) | (obtain ⟨_, _, _, _, _, _, _, rfl, _⟩ := h; rfl) | (obtain ⟨_, _, _, _, _, _, _, _, rfl, _⟩ := h; rfl) | (obtain ⟨_, _, _, _, _, _, _, _, _, rfl, _⟩ := h; rfl)
theorem hn_law_bad_places {K : PySem.W.Frag} : ∀ ds P, G_law_bad_places K ds P → ds.length = 1 := fun ds P h => by first | (obtain ⟨rfl, _⟩ := h; rfl) | (obtain ⟨_, rfl, _⟩ := h; rfl) | (obtain ⟨_, _, rfl, _⟩ := h; rfl) | (obtain ⟨_, _, _, rfl, _⟩ := h; rfl) | (obtain ⟨_, _, _, _, rfl, _⟩ := h; rfl) | (obtain ⟨_, _, _, _, _, rfl, _⟩ := h; rfl) | (obtain ⟨_, _, _, _, _, _, rfl, _⟩ := h; rfl) | (obtain ⟨_, _, _, _, _, _, _, rfl, _⟩ := h; rfl) | (obtain ⟨_, _, _, _, _, _, _, _, rfl, _⟩ := h; rfl) | (obtain ⟨_, _, _, _, _, _, _, _, _, rfl, _⟩ := h; rfl)
theorem hn_law_bad_kinds {K : PySem.W.Frag} : ∀ ds P, G_law_bad_kinds K ds P → ds.length = 1 := fun ds P h => by first | (obtain ⟨rfl, _⟩ := h; rfl) | (obtain ⟨_, rfl, _⟩ := h; rfl) | (obtain ⟨_, _, rfl, _⟩ := h; rfl) | (obtain ⟨_, _, _, rfl, _⟩ := h; rfl) | (obtain ⟨_, _, _, _, rfl, _⟩ := h; rfl) | (obtain ⟨_, _, _, _, _, rfl, _⟩ := h; rfl) | (obtain ⟨_, _, _, _, _, _, rfl, _⟩ := h; rfl) | (obtain ⟨_, _, _, _, _, _, _, rfl, _⟩ := h; rfl) | (obtain ⟨_, _, _, _, _, _, _, _, rfl, _⟩ := h; rfl) | (obtain ⟨_, _, _, _, _, _, _, _, _, rfl, _⟩ := h; rfl)
/-- what the walk asks of the text's names -/
structure Tx (K : PySem.W.Frag) (mg : Str → Option Value) : Prop where
  b_ValueError : mg "ValueError" = none
  b_all : mg "all" = none
  b_bool : mg "bool" = none
  b_int : mg "int" = none
  b_isinstance : mg "isinstance" = none
  b_len : mg "len" = none
  b_list : mg "list" = none
  b_max : mg "max" = none
  b_min : mg "min" = none
  b_range : mg "range" = none
  b_set : mg "set" = none
  b_tuple : mg "tuple" = none
  c_BadMinds : mg "BadMinds" = some (.ref (He.ga K "BadMinds"))
  c_BadPlaces : mg "BadPlaces" = some (.ref (He.ga K "BadPlaces"))
  c_BadRow : mg "BadRow" = some (.ref (He.ga K "BadRow"))
  c_DeedError : mg "DeedError" = some (.ref (He.ga K "DeedError"))
  c_Minding : mg "Minding" = some (.ref (He.ga K "Minding"))
  c_Minds : mg "Minds" = some (.ref (He.ga K "Minds"))
  k_Minds : Cls K (He.ga K "Minds")
  v_law_bad_kinds : mg "_law_bad_kinds" = some (.ref (He.ga K "_law_bad_kinds"))
  v_law_bad_pairs : mg "_law_bad_pairs" = some (.ref (He.ga K "_law_bad_pairs"))
  v_law_bad_places : mg "_law_bad_places" = some (.ref (He.ga K "_law_bad_places"))
  v_law_bad_rows : mg "_law_bad_rows" = some (.ref (He.ga K "_law_bad_rows"))
  v_law_counts : mg "_law_counts" = some (.ref (He.ga K "_law_counts"))
  v_alike : mg "alike" = some (.ref (He.ga K "alike"))
  v_begins : mg "begins" = some (.ref (He.ga K "begins"))
  v_common : mg "common" = some (.ref (He.ga K "common"))
  v_firsts : mg "firsts" = some (.ref (He.ga K "firsts"))
  v_least : mg "least" = some (.ref (He.ga K "least"))
  v_rounds : mg "rounds" = some (.ref (He.ga K "rounds"))
  v_together : mg "together" = some (.ref (He.ga K "together"))
  f_Minds_kinds : FldOk K (He.ga K "Minds") "kinds"
  f_Minds_kept : FldOk K (He.ga K "Minds") "kept"
  f_Minds_table : FldOk K (He.ga K "Minds") "table"
  x9 : Ok9 K
  o_BadMinds : OwnE K (He.ga K "BadMinds")
  o_BadRow : OwnE K (He.ga K "BadRow")
  o_BadPlaces : OwnE K (He.ga K "BadPlaces")
theorem Tx.M {K : PySem.W.Frag} {mg : Str → Option Value} (t : Tx K mg) : MindsOk K := ⟨t.f_Minds_kinds, t.f_Minds_kept, t.f_Minds_table⟩
section
variable {P : Program} {w : World} {K : PySem.W.Frag} {mg : Str → Option Value} {base : Heap} {f : Addr} {fd : FuncData}
set_option maxHeartbeats 4000000 in
theorem ok_is_number (t : Tx K mg) (F : FunD K "is_number" "is_number" (defArgs s_is_number) (defBody s_is_number) (defScope s_is_number) [] [] f fd) : FnOk P w K mg base CX0 1 f fd ["thing"] (spD K 1 (G_is_number K)) :=
  fn_ok (T := T_is_number K) F sc_is_number rfl (fun cdv A outer s H B He hr => (sd_one (sd_ret (pd_and (pd_isi t.b_isinstance (pe_typ t.b_int boot_int) (.ty _) (pd_var (pv 0))) (pd_one (pd_not (pd_isi t.b_isinstance (pe_typ t.b_bool boot_bool) (.ty _) (pd_var (pv 0))))))))) rd_is_number
set_option maxHeartbeats 4000000 in
theorem ok_is_pair (t : Tx K mg) (d_is_number : Def P w K mg base "is_number" 1 1 (G_is_number K)) (F : FunD K "is_pair" "is_pair" (defArgs s_is_pair) (defBody s_is_pair) (defScope s_is_pair) [] [] f fd) : FnOk P w K mg base CX0 2 f fd ["thing", "kinds"] (spD K 2 (G_is_pair K)) :=
  fn_ok (T := T_is_pair K) F sc_is_pair rfl (fun cdv A outer s H B He hr => (sd_cons (sd_if (PWd.t (pw_o (pt_n (pt_e (pd_isi t.b_isinstance (pe_typ t.b_tuple boot_tuple) (.ty _) (pd_var (pv 0))))) (pw_o (pt_cmp1 (op_neD (hu64 hr)) od_ne (pd_fn (call_len_seq) cd_len t.b_len PySem.boot_len (pa_c (pd_var (pv 0)) pa_0)) pd_int) (pw_o (pt_n (pt_e (pd_def d_is_number hn_is_number (hr.mono (by decide)) (pa_c (pd_ix (pd_var (pv 0)) pd_int) pa_0)))) (pw_o1 (pt_n (pt_e (pd_def d_is_number hn_is_number (hr.mono (by decide)) (pa_c (pd_ix (pd_var (pv 0)) pd_int) pa_0))))))))) (sd_one (sd_ret pd_bl)) sd_nil)
  (sd_one (sd_ret (pd_ch3 op_le op_lt op_lt od_le od_lt od_lt pd_int (pd_ix (pd_var (pv 0)) pd_int) (pd_ix (pd_var (pv 0)) pd_int) (pd_var (pv 1))))))) rd_is_pair
theorem ok_Minds_init (t : Tx K mg) (d_is_number : Def P w K mg base "is_number" 1 1 (G_is_number K)) (d_is_pair : Def P w K mg base "is_pair" 2 2 (G_is_pair K)) (F : FunD K "__init__" "Minds.__init__" (defArgs s_Minds_init) (defBody s_Minds_init) (defScope s_Minds_init) [] [] f fd) : FnOk P w K mg base (L2N.CX P w) 3 f fd ["self", "kinds", "pairs"] (spIX K (He.ga K "Minds") 2 (G_Minds_init K)) := by
  refine fn_iniX F sc_Minds_init rfl fun cdv A outer s H0 H B x ds R R' E D' σ hr hG hR hI hk => ?_
  show tAny (CxX P w K mg base N_Minds_init "Minds.__init__" (defScope s_Minds_init) f cdv A outer s H E) (defBody s_Minds_init) D' σ H
  rcases hG with ⟨n, ps, rfl, hn, hp, hQ⟩ | ⟨a, b, rfl, ⟨ga, gb⟩, hc, hQ⟩ | ⟨n, es, rfl, g, hn, hd, hQ⟩
  · refine any_if (T := T_Minds_init_0 K) (by exact (PWd.t (pw_o (pt_n (pt_e (pd_def d_is_number hn_is_number (hr.mono (by decide)) (pa_c (pd_var (pv 1)) pa_0)))) (pw_o (pt_cmp1 op_lt od_lt (pd_var (pv 1)) pd_int) (pw_o1 (pt_n (pt_e (pd_isi t.b_isinstance (pe_typ t.b_list boot_list) (.ty _) (pd_var (pv 2)))))))))) hI (rd_Minds_init_0 (a := .int n) (b := .lst (ps.map pD)) rfl (gd_ps (by have := hp.2.1; omega)) (c := false) (by show false = !(decide (1 ≤ n) && true); rw [decide_eq_true hn]; rfl)) fun G1 hI => ?_
    refine any_if (T := T_Minds_init_1 K) (by exact (PWd.t (pw_o (pt_n (pt_e (pd_fn (cr_all rfl) cd_all t.b_all boot_all (pa_c (by exact (pd_lc rfl sc_Minds_init.nd (pi_l (pd_var (pv 2))) (blkOk_by (own := [("pair", 3)]) (N := N_Minds_init) (sc := defScope s_Minds_init) (by decide +kernel)) (fun _ _ _ _ _ => pg_name sc_Minds_init.nd rfl (Or.inl rfl)) (fun _ _ _ _ _ => ptn) (fun _ _ _ _ _ => (pd_fz (pd_def d_is_pair hn_is_pair (hr.mono (by decide)) (pa_c (pd_var (pv 3)) (pa_c (pd_var (pv 1)) pa_0))))))) pa_0)))) (pw_o1 (pt_cmp1 op_lt od_lt (pd_lset2 rfl (hu64 hr) t.b_len t.b_set (pd_var (pv 2))) (pd_fn (call_len_seq) cd_len t.b_len PySem.boot_len (pa_c (pd_var (pv 2)) pa_0))))))) hI (rd_Minds_init_1f hp) fun G2 hI => ?_
    refine any_fld (T := T_Minds_init_2 K) (pd_var (pv 1)) (pv 0) hI t.f_Minds_kinds rd_Minds_init_2 rfl (Nat.le_of_ble_eq_true rfl) fun d G3 G4 hd hI => ?_
    subst hd
    refine any_fld (T := T_Minds_init_3 K) (pd_ty (call_list_of) cd_list t.b_list boot_list (pa_c (pd_var (pv 2)) pa_0)) (pv 0) hI t.f_Minds_kept rd_Minds_init_3 rfl (Nat.le_of_ble_eq_true rfl) fun d G5 G6 hd hI => ?_
    subst hd
    refine any_table (Ti := T_Minds_init_5 K) (j := 3) rfl (hu1 hr) (pi_l (pd_var (pv 2))) (pg_name sc_Minds_init.nd rfl (.inl rfl)) (pv 0) (pv 0) (pv 3) pe_bl hI t.f_Minds_table rd_Minds_init_5 rfl (Nat.le_of_ble_eq_true rfl) hp.1 hp.2.1 rfl (by decide) (Nat.le_of_ble_eq_true rfl) (hp := passes_of rfl) fun G7 G8 σ' hI => ?_
    exact any_nil (hk _ _ _ _ hQ hI)
  · exact any_raise (T := T_Minds_init_0 K) (by exact (PWd.t (pw_o (pt_n (pt_e (pd_def d_is_number hn_is_number (hr.mono (by decide)) (pa_c (pd_var (pv 1)) pa_0)))) (pw_o (pt_cmp1 op_lt od_lt (pd_var (pv 1)) pd_int) (pw_o1 (pt_n (pt_e (pd_isi t.b_isinstance (pe_typ t.b_list boot_list) (.ty _) (pd_var (pv 2)))))))))) hI (rd_Minds_init_0 ga gb (by rw [hc]; rfl)) rfl (L2N.takes_of rfl rfl rfl rfl) t.o_BadMinds t.c_BadMinds hR hQ
  · refine any_if (T := T_Minds_init_0 K) (by exact (PWd.t (pw_o (pt_n (pt_e (pd_def d_is_number hn_is_number (hr.mono (by decide)) (pa_c (pd_var (pv 1)) pa_0)))) (pw_o (pt_cmp1 op_lt od_lt (pd_var (pv 1)) pd_int) (pw_o1 (pt_n (pt_e (pd_isi t.b_isinstance (pe_typ t.b_list boot_list) (.ty _) (pd_var (pv 2)))))))))) hI (rd_Minds_init_0 (a := .int n) (b := .lst es) rfl g (c := false) (by show false = !(decide (1 ≤ n) && true); rw [decide_eq_true hn]; rfl)) fun G1 hI => ?_
    exact any_raise (T := T_Minds_init_1 K) (by exact (PWd.t (pw_o (pt_n (pt_e (pd_fn (cr_all rfl) cd_all t.b_all boot_all (pa_c (by exact (pd_lc rfl sc_Minds_init.nd (pi_l (pd_var (pv 2))) (blkOk_by (own := [("pair", 3)]) (N := N_Minds_init) (sc := defScope s_Minds_init) (by decide +kernel)) (fun _ _ _ _ _ => pg_name sc_Minds_init.nd rfl (Or.inl rfl)) (fun _ _ _ _ _ => ptn) (fun _ _ _ _ _ => (pd_fz (pd_def d_is_pair hn_is_pair (hr.mono (by decide)) (pa_c (pd_var (pv 3)) (pa_c (pd_var (pv 1)) pa_0))))))) pa_0)))) (pw_o1 (pt_cmp1 op_lt od_lt (pd_lset2 rfl (hu64 hr) t.b_len t.b_set (pd_var (pv 2))) (pd_fn (call_len_seq) cd_len t.b_len PySem.boot_len (pa_c (pd_var (pv 2)) pa_0))))))) hI (rd_Minds_init_1t g hd) rfl (L2N.takes_of rfl rfl rfl rfl) t.o_BadMinds t.c_BadMinds hR hQ
set_option maxHeartbeats 4000000 in
theorem ok_Minds_mind (t : Tx K mg) (d_check_row : XDef P w K mg base "check_row" 3 2 (G_check_row K)) (F : FunD K "mind" "Minds.mind" (defArgs s_Minds_mind) (defBody s_Minds_mind) (defScope s_Minds_mind) [] [] f fd) : FnOk P w K mg base (L2N.CX P w) 4 f fd ["self", "one", "other"] (spXD K 3 (G_Minds_mind K)) :=
  fn_okXD (T := fun R => T_Minds_mind R K) F sc_Minds_mind rfl (fun cdv A outer s H B He E R hr hR => (sd_cons (sd_exprX (px_def d_check_row hn_check_row (hr.mono (by decide)) (L2N.passes_call (L2N.takes_of rfl rfl rfl rfl) (fun _ _ _ _ h => h)) hR (pa_c (pd_var (pv 0)) (pa_c (pd_fz (pd_lst (pa_c (pd_var (pv 1)) (pa_c (pd_var (pv 2)) pa_0)))) pa_0))))
  (sd_one sd_nev))) rd_Minds_mind
set_option maxHeartbeats 4000000 in
theorem ok_Minds_minding (t : Tx K mg) (F : FunD K "minding" "Minds.minding" (defArgs s_Minds_minding) (defBody s_Minds_minding) (defScope s_Minds_minding) [] [] f fd) : FnOk P w K mg base CX0 1 f fd ["self", "one", "other"] (spD K 3 (G_Minds_minding K)) :=
  fn_ok (T := T_Minds_minding K) F sc_Minds_minding rfl (fun cdv A outer s H B He hr => (sd_one (sd_ret (pd_or (pd_cmp (op_eqD (hu64 hr)) od_eq (pd_var (pv 1)) (pd_var (pv 2))) (pd_one (pd_inD (hu1 hr) (pd_tup (pa_c (pd_fz (pd_fn (call_min2 rfl) cd_min2 t.b_min boot_min (pa_c (pd_var (pv 1)) (pa_c (pd_var (pv 2)) pa_0)))) (pa_c (pd_fz (pd_fn (call_max2 rfl) cd_max2 t.b_max boot_max (pa_c (pd_var (pv 1)) (pa_c (pd_var (pv 2)) pa_0)))) pa_0))) (pd_fld (pd_var (pv 0))))))))) (rd_Minds_minding t.M)
set_option maxHeartbeats 4000000 in
theorem ok_Minds_is_kind (t : Tx K mg) (d_is_number : Def P w K mg base "is_number" 1 1 (G_is_number K)) (F : FunD K "is_kind" "Minds.is_kind" (defArgs s_Minds_is_kind) (defBody s_Minds_is_kind) (defScope s_Minds_is_kind) [] [] f fd) : FnOk P w K mg base CX0 2 f fd ["self", "thing"] (spD K 2 (G_Minds_is_kind K)) :=
  fn_ok (T := T_Minds_is_kind K) F sc_Minds_is_kind rfl (fun cdv A outer s H B He hr => (sd_one (sd_ret (pd_and (pd_def d_is_number hn_is_number (hr.mono (by decide)) (pa_c (pd_var (pv 1)) pa_0)) (pd_one (pd_chain op_le op_lt od_le od_lt pd_int (pd_var (pv 1)) (pd_fld (pd_var (pv 0))))))))) (rd_Minds_is_kind t.M)
set_option maxHeartbeats 4000000 in
theorem ok_check_row (t : Tx K mg) (d_Minds_is_kind : MDef P w K mg base (He.ga K "Minds") "is_kind" 2 2 (G_Minds_is_kind K)) (F : FunD K "check_row" "check_row" (defArgs s_check_row) (defBody s_check_row) (defScope s_check_row) [] [] f fd) : FnOk P w K mg base (L2N.CX P w) 3 f fd ["minds", "row"] (spXD K 2 (G_check_row K)) :=
  fn_okXD (T := fun R => T_check_row R K) F sc_check_row rfl (fun cdv A outer s H B He E R hr hR => (sd_one (sd_if (PWd.t (pw_o (pt_n (pt_e (pd_isi t.b_isinstance (pe_typ t.b_list boot_list) (.ty _) (pd_var (pv 1))))) (pw_o1 (pt_n (pt_e (pd_fn (cr_all rfl) cd_all t.b_all boot_all (pa_c (by exact (pd_lc rfl sc_check_row.nd (pi_l (pd_var (pv 1))) (blkOk_by (own := [("kind", 2)]) (N := N_check_row) (sc := defScope s_check_row) (by decide +kernel)) (fun _ _ _ _ _ => pg_name sc_check_row.nd rfl (Or.inl rfl)) (fun _ _ _ _ _ => ptn) (fun _ _ _ _ _ => (pd_fz (pd_mdef t.k_Minds d_Minds_is_kind hn_Minds_is_kind (hr.mono (by decide)) (pd_var (pv 0)) (pa_c (pd_var (pv 2)) pa_0)))))) pa_0))))))) (sd_one (sd_raiseC rfl (L2N.takes_of rfl rfl rfl rfl) t.o_BadRow t.c_BadRow hR)) sd_nil))) rd_check_row
set_option maxHeartbeats 4000000 in
theorem ok_exchanged (t : Tx K mg) (d_is_number : Def P w K mg base "is_number" 1 1 (G_is_number K)) (d_check_row : XDef P w K mg base "check_row" 3 2 (G_check_row K)) (F : FunD K "exchanged" "exchanged" (defArgs s_exchanged) (defBody s_exchanged) (defScope s_exchanged) [] [] f fd) : FnOk P w K mg base (L2N.CX P w) 4 f fd ["minds", "row", "places"] (spXD K 3 (G_exchanged K)) :=
  fn_okXD (T := fun R => T_exchanged R K) F sc_exchanged rfl (fun cdv A outer s H B He E R hr hR => (sd_cons (sd_exprX (px_def d_check_row hn_check_row (hr.mono (by decide)) (L2N.passes_call (L2N.takes_of rfl rfl rfl rfl) (fun _ _ _ _ h => h)) hR (pa_c (pd_var (pv 0)) (pa_c (pd_var (pv 1)) pa_0))))
  (sd_cons (sd_if (PWd.t (pw_o (pt_n (pt_e (pd_isi t.b_isinstance (pe_typ t.b_list boot_list) (.ty _) (pd_var (pv 2))))) (pw_o1 (pt_n (pt_e (pd_fn (cr_all rfl) cd_all t.b_all boot_all (pa_c (by exact (pd_lc rfl sc_exchanged.nd (pi_l (pd_var (pv 2))) (blkOk_by (own := [("place", 3)]) (N := N_exchanged) (sc := defScope s_exchanged) (by decide +kernel)) (fun _ _ _ _ _ => pg_name sc_exchanged.nd rfl (Or.inl rfl)) (fun _ _ _ _ _ => ptn) (fun _ _ _ _ _ => (pd_and (pd_def d_is_number hn_is_number (hr.mono (by decide)) (pa_c (pd_var (pv 3)) pa_0)) (pd_one (pd_chain op_le op_lt od_le od_lt pd_int (pd_var (pv 3)) (pd_sub (pd_fn (call_len_seq) cd_len t.b_len PySem.boot_len (pa_c (pd_var (pv 1)) pa_0)) pd_int))))))) pa_0))))))) (sd_one (sd_raiseC rfl (L2N.takes_of rfl rfl rfl rfl) t.o_BadPlaces t.c_BadPlaces hR)) sd_nil)
  (sd_cons sd_nev
  (sd_cons sd_nev
  (sd_one sd_nev)))))) rd_exchanged
set_option maxHeartbeats 4000000 in
theorem ok_part_of (t : Tx K mg) (F : FunD K "part_of" "part_of" (defArgs s_part_of) (defBody s_part_of) (defScope s_part_of) [] [] f fd) : FnOk P w K mg base CX0 1 f fd ["row", "one", "other"] (spD K 3 (G_part_of K)) :=
  fn_ok (T := T_part_of K) F sc_part_of rfl (fun cdv A outer s H B He hr => (sd_one (sd_ret (by exact (pd_lc rfl sc_part_of.nd (pi_l (pd_var (pv 0))) (blkOk_by (own := [("kind", 3)]) (N := N_part_of) (sc := defScope s_part_of) (by decide +kernel)) (fun _ _ _ _ _ => pg_name sc_part_of.nd rfl (Or.inl rfl)) (fun _ _ _ _ _ => (pto (pt_cmp1 op_in_seq od_inT (pd_var (pv 3)) (pd_tup (pa_c (pd_var (pv 1)) (pa_c (pd_var (pv 2)) pa_0)))))) (fun _ _ _ _ _ => (pd_var (pv 3)))))))) rd_part_of
set_option maxHeartbeats 4000000 in
theorem ok_had (t : Tx K mg) (d_Minds_minding : MDef P w K mg base (He.ga K "Minds") "minding" 1 3 (G_Minds_minding K)) (d_check_row : XDef P w K mg base "check_row" 3 2 (G_check_row K)) (d_part_of : Def P w K mg base "part_of" 1 3 (G_part_of K)) (F : FunD K "had" "had" (defArgs s_had) (defBody s_had) (defScope s_had) [] [] f fd) : FnOk P w K mg base (L2N.CX P w) 4 f fd ["minds", "row", "one", "other"] (spXD K 4 (G_had K)) :=
  fn_okXD (T := fun R => T_had R K) F sc_had rfl (fun cdv A outer s H B He E R hr hR => (sd_cons (sd_exprX (px_def d_check_row hn_check_row (hr.mono (by decide)) (L2N.passes_call (L2N.takes_of rfl rfl rfl rfl) (fun _ _ _ _ h => h)) hR (pa_c (pd_var (pv 0)) (pa_c (pd_var (pv 1)) pa_0))))
  (sd_cons (sd_exprX (px_def d_check_row hn_check_row (hr.mono (by decide)) (L2N.passes_call (L2N.takes_of rfl rfl rfl rfl) (fun _ _ _ _ h => h)) hR (pa_c (pd_var (pv 0)) (pa_c (pd_fz (pd_lst (pa_c (pd_var (pv 2)) (pa_c (pd_var (pv 3)) pa_0)))) pa_0))))
  (sd_cons (sd_if (pt_n (pt_e (pd_mdef t.k_Minds d_Minds_minding hn_Minds_minding (hr.mono (by decide)) (pd_var (pv 0)) (pa_c (pd_var (pv 2)) (pa_c (pd_var (pv 3)) pa_0))))) (sd_one (sd_raiseC rfl (L2N.takes_of rfl rfl rfl rfl) t.o_BadRow t.c_BadRow hR)) sd_nil)
  (sd_one (sd_ret (pd_def d_part_of hn_part_of (hr.mono (by decide)) (pa_c (pd_var (pv 1)) (pa_c (pd_var (pv 2)) (pa_c (pd_var (pv 3)) pa_0)))))))))) rd_had
set_option maxHeartbeats 4000000 in
theorem ok_check_two (t : Tx K mg) (d_check_row : XDef P w K mg base "check_row" 3 2 (G_check_row K)) (F : FunD K "check_two" "check_two" (defArgs s_check_two) (defBody s_check_two) (defScope s_check_two) [] [] f fd) : FnOk P w K mg base (L2N.CX P w) 4 f fd ["minds", "one", "other"] (spXD K 3 (G_check_two K)) :=
  fn_okXD (T := fun R => T_check_two R K) F sc_check_two rfl (fun cdv A outer s H B He E R hr hR => (sd_cons (sd_exprX (px_def d_check_row hn_check_row (hr.mono (by decide)) (L2N.passes_call (L2N.takes_of rfl rfl rfl rfl) (fun _ _ _ _ h => h)) hR (pa_c (pd_var (pv 0)) (pa_c (pd_var (pv 1)) pa_0))))
  (sd_one (sd_exprX (px_def d_check_row hn_check_row (hr.mono (by decide)) (L2N.passes_call (L2N.takes_of rfl rfl rfl rfl) (fun _ _ _ _ h => h)) hR (pa_c (pd_var (pv 0)) (pa_c (pd_var (pv 2)) pa_0))))))) rd_check_two
set_option maxHeartbeats 4000000 in
theorem ok_alike (t : Tx K mg) (d_check_two : XDef P w K mg base "check_two" 4 3 (G_check_two K)) (F : FunD K "alike" "alike" (defArgs s_alike) (defBody s_alike) (defScope s_alike) [] [] f fd) : FnOk P w K mg base (L2N.CX P w) 5 f fd ["minds", "one", "other"] (spXD K 3 (G_alike K)) :=
  fn_okXD (T := fun R => T_alike R K) F sc_alike rfl (fun cdv A outer s H B He E R hr hR => (sd_cons (sd_exprX (px_def d_check_two hn_check_two (hr.mono (by decide)) (L2N.passes_call (L2N.takes_of rfl rfl rfl rfl) (fun _ _ _ _ h => h)) hR (pa_c (pd_var (pv 0)) (pa_c (pd_var (pv 1)) (pa_c (pd_var (pv 2)) pa_0)))))
  (sd_cons sd_nev
  (sd_cons sd_nev
  (sd_cons sd_nev
  (sd_one sd_nev)))))) rd_alike
set_option maxHeartbeats 4000000 in
theorem ok_begins (t : Tx K mg) (d_check_two : XDef P w K mg base "check_two" 4 3 (G_check_two K)) (F : FunD K "begins" "begins" (defArgs s_begins) (defBody s_begins) (defScope s_begins) [] [] f fd) : FnOk P w K mg base (L2N.CX P w) 5 f fd ["minds", "one", "other"] (spXD K 3 (G_begins K)) :=
  fn_okXD (T := fun R => T_begins R K) F sc_begins rfl (fun cdv A outer s H B He E R hr hR => (sd_cons (sd_exprX (px_def d_check_two hn_check_two (hr.mono (by decide)) (L2N.passes_call (L2N.takes_of rfl rfl rfl rfl) (fun _ _ _ _ h => h)) hR (pa_c (pd_var (pv 0)) (pa_c (pd_var (pv 1)) (pa_c (pd_var (pv 2)) pa_0)))))
  (sd_cons sd_nev
  (sd_cons sd_nev
  (sd_cons sd_nev
  (sd_one sd_nev)))))) rd_begins
set_option maxHeartbeats 4000000 in
theorem ok_together (t : Tx K mg) (d_check_two : XDef P w K mg base "check_two" 4 3 (G_check_two K)) (F : FunD K "together" "together" (defArgs s_together) (defBody s_together) (defScope s_together) [] [] f fd) : FnOk P w K mg base (L2N.CX P w) 5 f fd ["minds", "one", "other"] (spXD K 3 (G_together K)) :=
  fn_okXD (T := fun R => T_together R K) F sc_together rfl (fun cdv A outer s H B He E R hr hR => (sd_cons (sd_exprX (px_def d_check_two hn_check_two (hr.mono (by decide)) (L2N.passes_call (L2N.takes_of rfl rfl rfl rfl) (fun _ _ _ _ h => h)) hR (pa_c (pd_var (pv 0)) (pa_c (pd_var (pv 1)) (pa_c (pd_var (pv 2)) pa_0)))))
  (sd_cons sd_nev
  (sd_cons sd_nev
  (sd_cons sd_nev
  (sd_one sd_nev)))))) rd_together
set_option maxHeartbeats 4000000 in
theorem ok_common (t : Tx K mg) (d_check_two : XDef P w K mg base "check_two" 4 3 (G_check_two K)) (F : FunD K "common" "common" (defArgs s_common) (defBody s_common) (defScope s_common) [] [] f fd) : FnOk P w K mg base (L2N.CX P w) 5 f fd ["minds", "one", "other"] (spXD K 3 (G_common K)) :=
  fn_okXD (T := fun R => T_common R K) F sc_common rfl (fun cdv A outer s H B He E R hr hR => (sd_cons (sd_exprX (px_def d_check_two hn_check_two (hr.mono (by decide)) (L2N.passes_call (L2N.takes_of rfl rfl rfl rfl) (fun _ _ _ _ h => h)) hR (pa_c (pd_var (pv 0)) (pa_c (pd_var (pv 1)) (pa_c (pd_var (pv 2)) pa_0)))))
  (sd_cons sd_nev
  (sd_cons sd_nev
  (sd_cons sd_nev
  (sd_cons sd_nev
  (sd_one sd_nev))))))) rd_common
set_option maxHeartbeats 4000000 in
theorem ok_firsts (t : Tx K mg) (d_check_row : XDef P w K mg base "check_row" 3 2 (G_check_row K)) (F : FunD K "firsts" "firsts" (defArgs s_firsts) (defBody s_firsts) (defScope s_firsts) [] [] f fd) : FnOk P w K mg base (L2N.CX P w) 4 f fd ["minds", "row"] (spXD K 2 (G_firsts K)) :=
  fn_okXD (T := fun R => T_firsts R K) F sc_firsts rfl (fun cdv A outer s H B He E R hr hR => (sd_cons (sd_exprX (px_def d_check_row hn_check_row (hr.mono (by decide)) (L2N.passes_call (L2N.takes_of rfl rfl rfl rfl) (fun _ _ _ _ h => h)) hR (pa_c (pd_var (pv 0)) (pa_c (pd_var (pv 1)) pa_0))))
  (sd_one sd_nev))) rd_firsts
set_option maxHeartbeats 4000000 in
theorem ok_rounds (t : Tx K mg) (d_check_row : XDef P w K mg base "check_row" 3 2 (G_check_row K)) (F : FunD K "rounds" "rounds" (defArgs s_rounds) (defBody s_rounds) (defScope s_rounds) [] [] f fd) : FnOk P w K mg base (L2N.CX P w) 4 f fd ["minds", "row"] (spXD K 2 (G_rounds K)) :=
  fn_okXD (T := fun R => T_rounds R K) F sc_rounds rfl (fun cdv A outer s H B He E R hr hR => (sd_cons (sd_exprX (px_def d_check_row hn_check_row (hr.mono (by decide)) (L2N.passes_call (L2N.takes_of rfl rfl rfl rfl) (fun _ _ _ _ h => h)) hR (pa_c (pd_var (pv 0)) (pa_c (pd_var (pv 1)) pa_0))))
  (sd_cons sd_nev
  (sd_cons sd_nev
  (sd_cons sd_nev
  (sd_cons sd_nev
  (sd_cons sd_nev
  (sd_cons sd_nev
  (sd_one sd_nev))))))))) rd_rounds
set_option maxHeartbeats 4000000 in
theorem ok_least (t : Tx K mg) (d_check_row : XDef P w K mg base "check_row" 3 2 (G_check_row K)) (F : FunD K "least" "least" (defArgs s_least) (defBody s_least) (defScope s_least) [] [] f fd) : FnOk P w K mg base (L2N.CX P w) 4 f fd ["minds", "row"] (spXD K 2 (G_least K)) :=
  fn_okXD (T := fun R => T_least R K) F sc_least rfl (fun cdv A outer s H B He E R hr hR => (sd_cons (sd_exprX (px_def d_check_row hn_check_row (hr.mono (by decide)) (L2N.passes_call (L2N.takes_of rfl rfl rfl rfl) (fun _ _ _ _ h => h)) hR (pa_c (pd_var (pv 0)) (pa_c (pd_var (pv 1)) pa_0))))
  (sd_cons sd_nev
  (sd_cons sd_nev
  (sd_cons sd_nev
  (sd_one sd_nev)))))) rd_least
set_option maxHeartbeats 4000000 in
theorem ok_law_ask (t : Tx K mg) (d_Minds_init : XCDef P w K mg base (He.ga K "Minds") "Minds" 3 2 (G_Minds_init K)) (d_Minds_mind : XMDef P w K mg base (He.ga K "Minds") "mind" 4 3 (G_Minds_mind K)) (d_exchanged : XDef P w K mg base "exchanged" 4 3 (G_exchanged K)) (d_had : XDef P w K mg base "had" 4 4 (G_had K)) (d_alike : XDef P w K mg base "alike" 5 3 (G_alike K)) (d_begins : XDef P w K mg base "begins" 5 3 (G_begins K)) (d_together : XDef P w K mg base "together" 5 3 (G_together K)) (d_common : XDef P w K mg base "common" 5 3 (G_common K)) (d_firsts : XDef P w K mg base "firsts" 4 2 (G_firsts K)) (d_rounds : XDef P w K mg base "rounds" 4 2 (G_rounds K)) (d_least : XDef P w K mg base "least" 4 2 (G_least K)) (F : FunD K "_law_ask" "_law_ask" (defArgs s_law_ask) (defBody s_law_ask) (defScope s_law_ask) [] [] f fd) : FnOk P w K mg base (L2N.CX P w) 6 f fd ["_law_door", "_law_thing"] (spXD K 2 (G_law_ask K)) :=
  fn_okXD (T := fun R => T_law_ask R K) F sc_law_ask rfl (fun cdv A outer s H B He E R hr hR => (sd_cons (sd_set (i := 2) sc_law_ask.nd (pd_fz (pd_cdefX d_Minds_init hn_Minds_init (hr.mono (by decide)) (pa_c pd_int (pa_c (pd_fz (pd_lst (pa_c (pd_tup (pa_c pd_int (pa_c pd_int pa_0))) pa_0))) pa_0)))))
  (sd_cons (sd_if (pt_cmp1 op_lt od_lt (pd_var (pv 0)) pd_int) (sd_one (sd_retX (px_if (pt_cmp1 (op_eqD (hu64 hr)) od_eq (pd_var (pv 0)) pd_int) (px_cdef d_Minds_init hn_Minds_init (hr.mono (by decide)) (L2N.passes_call (L2N.takes_of rfl rfl rfl rfl) (fun _ _ _ _ h => h)) hR (pa_c (pd_var (pv 1)) (pa_c (pd_fz (pd_lst pa_0)) pa_0))) (px_cdef d_Minds_init hn_Minds_init (hr.mono (by decide)) (L2N.passes_call (L2N.takes_of rfl rfl rfl rfl) (fun _ _ _ _ h => h)) hR (pa_c pd_int (pa_c (pd_var (pv 1)) pa_0)))))) sd_nil)
  (sd_cons (sd_if (pt_cmp1 op_lt od_lt (pd_var (pv 0)) pd_int) (sd_cons (sd_set (i := 3) sc_law_ask.nd (pd_fz (pd_sub (pd_fdiv (pd_var (pv 0)) pd_int) pd_int)))
  (sd_cons (sd_set (i := 4) sc_law_ask.nd (pd_ix (pd_lst (pa_c (pd_fz (pd_lst (pa_c (pd_var (pv 1)) (pa_c (pd_fz (pd_lst (pa_c pd_int pa_0))) pa_0)))) (pa_c (pd_fz (pd_lst (pa_c (pd_fz (pd_lst (pa_c pd_int pa_0))) (pa_c (pd_var (pv 1)) pa_0)))) pa_0))) (pd_mod (pd_var (pv 0)) pd_int)))
  (sd_one (sd_retX (px_callV (HV := HV_two K) (n := 3) (k := 5) (fun f G h => by rcases h with ⟨rfl, rfl⟩ | ⟨rfl, rfl⟩ | ⟨rfl, rfl⟩ | ⟨rfl, rfl⟩ <;> first | exact d_alike.fdef t.v_alike (by decide) | exact d_begins.fdef t.v_begins (by decide) | exact d_together.fdef t.v_together (by decide) | exact d_common.fdef t.v_common (by decide)) (fun f G h => by rcases h with ⟨rfl, rfl⟩ | ⟨rfl, rfl⟩ | ⟨rfl, rfl⟩ | ⟨rfl, rfl⟩ <;> first | exact hn_alike | exact hn_begins | exact hn_together | exact hn_common) (hr.mono (by decide)) (L2N.passes_call (L2N.takes_of rfl rfl rfl rfl) (fun _ _ _ _ h => h)) hR (pd_ix (pd_lst (pa_c (pd_fnc t.v_alike) (pa_c (pd_fnc t.v_begins) (pa_c (pd_fnc t.v_together) (pa_c (pd_fnc t.v_common) pa_0))))) (pd_var (pv 3))) (pa_c (pd_var (pv 2)) (pa_c (pd_ix (pd_var (pv 4)) pd_int) (pa_c (pd_ix (pd_var (pv 4)) pd_int) pa_0)))))))) sd_nil)
  (sd_cons (sd_if (pt_cmp1 op_lt od_lt (pd_var (pv 0)) pd_int) (sd_one (sd_retX (px_callV (HV := HV_one K) (n := 2) (k := 4) (fun f G h => by rcases h with ⟨rfl, rfl⟩ | ⟨rfl, rfl⟩ | ⟨rfl, rfl⟩ <;> first | exact d_firsts.fdef t.v_firsts (by decide) | exact d_rounds.fdef t.v_rounds (by decide) | exact d_least.fdef t.v_least (by decide)) (fun f G h => by rcases h with ⟨rfl, rfl⟩ | ⟨rfl, rfl⟩ | ⟨rfl, rfl⟩ <;> first | exact hn_firsts | exact hn_rounds | exact hn_least) (hr.mono (by decide)) (L2N.passes_call (L2N.takes_of rfl rfl rfl rfl) (fun _ _ _ _ h => h)) hR (pd_ix (pd_lst (pa_c (pd_fnc t.v_firsts) (pa_c (pd_fnc t.v_rounds) (pa_c (pd_fnc t.v_least) pa_0)))) (pd_sub (pd_var (pv 0)) pd_int)) (pa_c (pd_var (pv 2)) (pa_c (pd_var (pv 1)) pa_0))))) sd_nil)
  (sd_cons (sd_if (pt_cmp1 op_lt od_lt (pd_var (pv 0)) pd_int) (sd_one (sd_retX (px_if (pt_cmp1 (op_eqD (hu64 hr)) od_eq (pd_var (pv 0)) pd_int) (px_def d_exchanged hn_exchanged (hr.mono (by decide)) (L2N.passes_call (L2N.takes_of rfl rfl rfl rfl) (fun _ _ _ _ h => h)) hR (pa_c (pd_var (pv 2)) (pa_c (pd_var (pv 1)) (pa_c pd_non pa_0)))) (px_def d_exchanged hn_exchanged (hr.mono (by decide)) (L2N.passes_call (L2N.takes_of rfl rfl rfl rfl) (fun _ _ _ _ h => h)) hR (pa_c (pd_var (pv 2)) (pa_c (pd_fz (pd_lst (pa_c pd_int (pa_c pd_int (pa_c pd_int pa_0))))) (pa_c (pd_var (pv 1)) pa_0))))))) sd_nil)
  (sd_cons (sd_if (pt_cmp1 op_lt od_lt (pd_var (pv 0)) pd_int) (sd_one (sd_retX (px_if (pt_cmp1 (op_eqD (hu64 hr)) od_eq (pd_var (pv 0)) pd_int) (px_mdef t.k_Minds d_Minds_mind hn_Minds_mind (hr.mono (by decide)) (L2N.passes_call (L2N.takes_of rfl rfl rfl rfl) (fun _ _ _ _ h => h)) hR (pd_var (pv 2)) (pa_c (pd_var (pv 1)) (pa_c pd_int pa_0))) (px_mdef t.k_Minds d_Minds_mind hn_Minds_mind (hr.mono (by decide)) (L2N.passes_call (L2N.takes_of rfl rfl rfl rfl) (fun _ _ _ _ h => h)) hR (pd_var (pv 2)) (pa_c pd_int (pa_c (pd_var (pv 1)) pa_0)))))) sd_nil)
  (sd_cons (sd_if (pt_cmp1 op_lt od_lt (pd_var (pv 0)) pd_int) (sd_one (sd_retX (px_if (pt_cmp1 (op_eqD (hu64 hr)) od_eq (pd_var (pv 0)) pd_int) (px_def d_had hn_had (hr.mono (by decide)) (L2N.passes_call (L2N.takes_of rfl rfl rfl rfl) (fun _ _ _ _ h => h)) hR (pa_c (pd_var (pv 2)) (pa_c (pd_var (pv 1)) (pa_c pd_int (pa_c pd_int pa_0))))) (px_def d_had hn_had (hr.mono (by decide)) (L2N.passes_call (L2N.takes_of rfl rfl rfl rfl) (fun _ _ _ _ h => h)) hR (pa_c (pd_var (pv 2)) (pa_c (pd_fz (pd_lst (pa_c pd_int pa_0))) (pa_c (pd_var (pv 1)) (pa_c pd_int pa_0)))))))) sd_nil)
  (sd_one (sd_retX (px_def d_had hn_had (hr.mono (by decide)) (L2N.passes_call (L2N.takes_of rfl rfl rfl rfl) (fun _ _ _ _ h => h)) hR (pa_c (pd_var (pv 2)) (pa_c (pd_fz (pd_lst (pa_c pd_int pa_0))) (pa_c pd_int (pa_c (pd_var (pv 1)) pa_0))))))))))))))) rd_law_ask
set_option maxHeartbeats 4000000 in
theorem ok_law_due (t : Tx K mg) (d_law_ask : XDef P w K mg base "_law_ask" 6 2 (G_law_ask K)) (F : FunD K "_law_due" "_law_due" (defArgs s_law_due) (defBody s_law_due) (defScope s_law_due) [] [] f fd) : FnOk P w K mg base CX0 7 f fd ["_law_door", "_law_thing", "_law_due_here"] (spD K 3 (G_law_due K)) := by
  obtain ⟨fE, fdE, psE, FX, mE, kE, bE⟩ := d_law_ask.ex
  refine F.ok sc_law_due (fun vs H Q E h => h.1) fun cdv A outer s H vs Q E hr h => ⟨t_due K, ?_, run_due t.x9 vs H Q E h⟩
  have hu := hu64 hr
  exact pss_cons (L2N.ps_try_as (i := 3) (tb := fun W => tDrop (tCallS (spXD K 2 (G_law_ask K)) (WE W) (tCons (tVar 0) (tCons (tVar 1) tNil)))) (ts := t_suite K) (Wout := fun _ _ _ _ => False) rfl rfl sc_law_due.nd rfl rfl ⟨rfl, by decide, .inl t.c_DeedError⟩ takes0N
      (fun W pn xe tk _ => pss_one (ps_expr (by exact (pe_callS FX (hr.mono (by decide)) rfl mE kE bE (fun σ => L2N.passAt tk σ) (by exact (pa_cons (pv 0) (pa_cons (pv 1) pa_nil)))))))
      (fun a oe cls d pn hz hf => pss_cons (ps_set (i := 4) sc_law_due.nd rfl (Or.inl rfl) (by exact (pe_lst (pa_cons (pe_callB (call_isN hz.zc (hf.elim fun vs e => ⟨vs, e⟩)) rfl t.b_isinstance boot_isinstance (pa_cons (pv 3) (pa_cons (pe_own t.c_BadMinds) pa_nil rfl) rfl) (by decide) (by decide) rfl rfl) (pa_cons (pe_callB (call_isN hz.zc (hf.elim fun vs e => ⟨vs, e⟩)) rfl t.b_isinstance boot_isinstance (pa_cons (pv 3) (pa_cons (pe_own t.c_BadRow) pa_nil rfl) rfl) (by decide) (by decide) rfl rfl) (pa_cons (pe_callB (call_isN hz.zc (hf.elim fun vs e => ⟨vs, e⟩)) rfl t.b_isinstance boot_isinstance (pa_cons (pv 3) (pa_cons (pe_own t.c_BadPlaces) pa_nil rfl) rfl) (by decide) (by decide) rfl rfl) pa_nil))))))
        (pss_one (ps_ret (by exact (pe_and (by exact (pe_cmpR (op_eqD hu) (by exact (pe_op (OpR.either op_add op_cat) (pv 4) (by exact (pe_lst (pa_cons (pe_callB (call_isN hz.zc (hf.elim fun vs e => ⟨vs, e⟩)) rfl t.b_isinstance boot_isinstance (pa_cons (pv 3) (pa_cons (pe_own t.c_Minding) pa_nil rfl) rfl) (by decide) (by decide) rfl rfl) pa_nil))))) (by exact (pe_lcH (own := [("_law_k", 5)]) ⟨(a, oe), ⟨rfl, hf.elim fun vs e => ⟨vs, e, hz.2.2 vs e⟩⟩, List.mem_cons_self⟩ sc_law_due.nd (by exact (L2H.pi_range1H rfl t.b_range (pa_cons pe_int pa_nil))) (blkOk_by (own := [("_law_k", 5)]) (N := N_law_due) (sc := defScope s_law_due) (by decide +kernel)) (fun _ _ _ _ _ => pg_name sc_law_due.nd rfl (Or.inl rfl)) (fun _ _ _ _ _ => by exact (pe_cmpR (op_eqD hu) (pv 5) (pv 2) (by first | exact nobehind _ (by decide) (by decide) | rfl))))) (by first | exact nobehind _ (by decide) (by decide) | rfl))) (pe_one (pe_callB (call_isN hz.zc (hf.elim fun vs e => ⟨vs, e⟩)) rfl t.b_isinstance boot_isinstance (pa_cons (pv 3) (pa_cons (pe_typ t.b_ValueError (by decide +kernel)) pa_nil rfl) rfl) (by decide) (by decide) rfl rfl))))))))
    (pss_one (ps_ret (by exact pe_bl)))
set_option maxHeartbeats 4000000 in
theorem ok_law_counts (t : Tx K mg) (F : FunD K "_law_counts" "_law_counts" (defArgs s_law_counts) (defBody s_law_counts) (defScope s_law_counts) [] [] f fd) : FnOk P w K mg base CX0 1 f fd ["_law_cell"] (spD K 1 (G_law_counts K)) :=
  fn_ok (T := T_law_counts K) F sc_law_counts rfl (fun cdv A outer s H B He hr => (sd_one (sd_ret (pd_lst (pa_c pd_non (pa_c pd_int (pa_c (pd_ng pd_int) (pa_c (pd_fz (pd_sub (pd_ng pd_int) (pd_mod (pd_var (pv 0)) pd_int))) (pa_c pd_bl (pa_c pd_str (pa_c (pd_fz (pd_lst (pa_c pd_int pa_0))) (pa_c (pd_tup (pa_c pd_int pa_0)) pa_0)))))))))))) rd_law_counts
set_option maxHeartbeats 4000000 in
theorem ok_law_bad_pairs (t : Tx K mg) (F : FunD K "_law_bad_pairs" "_law_bad_pairs" (defArgs s_law_bad_pairs) (defBody s_law_bad_pairs) (defScope s_law_bad_pairs) [] [] f fd) : FnOk P w K mg base CX0 1 f fd ["_law_cell"] (spD K 1 (G_law_bad_pairs K)) :=
  fn_ok (T := T_law_bad_pairs K) F sc_law_bad_pairs rfl (fun cdv A outer s H B He hr => (sd_cons (sd_set (i := 1) sc_law_bad_pairs.nd (pd_fz (pd_lst (pa_c pd_non (pa_c (pd_tup pa_0) (pa_c pd_str (pa_c pd_dct (pa_c (pd_fz (pd_lst (pa_c pd_non pa_0))) (pa_c (pd_fz (pd_lst (pa_c (pd_tup (pa_c pd_int pa_0)) pa_0))) (pa_c (pd_fz (pd_lst (pa_c (pd_tup (pa_c pd_int (pa_c pd_int (pa_c pd_int pa_0)))) pa_0))) (pa_c (pd_fz (pd_lst (pa_c (pd_fz (pd_lst (pa_c pd_int (pa_c pd_int pa_0)))) pa_0))) (pa_c (pd_fz (pd_lst (pa_c (pd_tup (pa_c pd_int (pa_c pd_int pa_0))) pa_0))) (pa_c (pd_fz (pd_lst (pa_c (pd_tup (pa_c pd_int (pa_c pd_int pa_0))) pa_0))) (pa_c (pd_fz (pd_lst (pa_c (pd_tup (pa_c pd_int (pa_c pd_int pa_0))) pa_0))) (pa_c (pd_fz (pd_lst (pa_c (pd_tup (pa_c (pd_ng pd_int) (pa_c pd_int pa_0))) pa_0))) pa_0)))))))))))))))
  (sd_cons (sd_set (i := 1) sc_law_bad_pairs.nd (pd_fz (pd_add (pd_var (pv 1)) (pd_lst (pa_c (pd_fz (pd_lst (pa_c (pd_tup (pa_c pd_int (pa_c pd_bl pa_0))) pa_0))) (pa_c (pd_fz (pd_lst (pa_c (pd_tup (pa_c pd_int (pa_c pd_int pa_0))) (pa_c (pd_tup (pa_c pd_int (pa_c pd_int pa_0))) pa_0)))) (pa_c (pd_fz (pd_lst (pa_c (pd_tup (pa_c pd_str (pa_c pd_int pa_0))) pa_0))) (pa_c (pd_fz (pd_lst (pa_c (pd_tup (pa_c pd_int (pa_c pd_int pa_0))) (pa_c (pd_tup (pa_c pd_int (pa_c (pd_fz (pd_add pd_int (pd_mod (pd_var (pv 0)) pd_int))) pa_0))) pa_0)))) (pa_c (pd_fz (pd_lst (pa_c pd_int pa_0))) (pa_c (pd_var (pv 0)) (pa_c pd_int pa_0)))))))))))
  (sd_one (sd_ret (pd_add (pd_var (pv 1)) (pd_lst (pa_c (pd_fz (pd_lst (pa_c (pd_tup (pa_c pd_int (pa_c pd_int pa_0))) (pa_c (pd_tup (pa_c pd_int (pa_c pd_int pa_0))) (pa_c (pd_tup (pa_c pd_int (pa_c pd_int pa_0))) pa_0))))) pa_0)))))))) rd_law_bad_pairs
set_option maxHeartbeats 4000000 in
theorem ok_law_bad_rows (t : Tx K mg) (F : FunD K "_law_bad_rows" "_law_bad_rows" (defArgs s_law_bad_rows) (defBody s_law_bad_rows) (defScope s_law_bad_rows) [] [] f fd) : FnOk P w K mg base CX0 1 f fd ["_law_cell"] (spD K 1 (G_law_bad_rows K)) :=
  fn_ok (T := T_law_bad_rows K) F sc_law_bad_rows rfl (fun cdv A outer s H B He hr => (sd_cons (sd_set (i := 1) sc_law_bad_rows.nd (pd_fz (pd_lst (pa_c pd_non (pa_c (pd_tup (pa_c pd_int (pa_c pd_int pa_0))) (pa_c pd_str (pa_c pd_dct (pa_c (pd_fz (pd_lst (pa_c pd_non pa_0))) (pa_c (pd_fz (pd_lst (pa_c pd_int pa_0))) (pa_c (pd_fz (pd_lst (pa_c (pd_ng pd_int) pa_0))) (pa_c (pd_fz (pd_lst (pa_c pd_bl pa_0))) (pa_c (pd_fz (pd_lst (pa_c pd_str pa_0))) (pa_c (pd_fz (pd_lst (pa_c (pd_fz (pd_lst (pa_c pd_int pa_0))) pa_0))) (pa_c (pd_fz (pd_lst (pa_c pd_int (pa_c pd_int pa_0)))) (pa_c (pd_var (pv 0)) (pa_c pd_int (pa_c (pd_fz (pd_lst (pa_c pd_int (pa_c pd_int (pa_c (pd_fz (pd_add pd_int (pd_mod (pd_var (pv 0)) pd_int))) pa_0))))) pa_0)))))))))))))))))
  (sd_one (sd_ret (pd_add (pd_var (pv 1)) (pd_lst (pa_c (pd_fz (pd_lst (pa_c (pd_fz (pd_sub (pd_ng pd_int) (pd_mod (pd_var (pv 0)) pd_int))) pa_0))) (pa_c (pd_fz (pd_lst (pa_c pd_int (pa_c pd_int (pa_c pd_int (pa_c pd_non pa_0)))))) pa_0)))))))) rd_law_bad_rows
set_option maxHeartbeats 4000000 in
theorem ok_law_bad_places (t : Tx K mg) (F : FunD K "_law_bad_places" "_law_bad_places" (defArgs s_law_bad_places) (defBody s_law_bad_places) (defScope s_law_bad_places) [] [] f fd) : FnOk P w K mg base CX0 1 f fd ["_law_cell"] (spD K 1 (G_law_bad_places K)) :=
  fn_ok (T := T_law_bad_places K) F sc_law_bad_places rfl (fun cdv A outer s H B He hr => (sd_cons (sd_set (i := 1) sc_law_bad_places.nd (pd_fz (pd_lst (pa_c pd_non (pa_c (pd_tup pa_0) (pa_c pd_str (pa_c pd_dct (pa_c (pd_fz (pd_lst (pa_c pd_non pa_0))) (pa_c (pd_fz (pd_lst (pa_c pd_int pa_0))) (pa_c (pd_fz (pd_lst (pa_c (pd_ng pd_int) pa_0))) (pa_c (pd_fz (pd_lst (pa_c pd_bl pa_0))) (pa_c (pd_fz (pd_lst (pa_c pd_str pa_0))) (pa_c (pd_fz (pd_lst (pa_c pd_int (pa_c pd_int pa_0)))) (pa_c (pd_var (pv 0)) (pa_c (pd_fz (pd_lst (pa_c pd_int (pa_c (pd_fz (pd_add pd_int (pd_mod (pd_var (pv 0)) pd_int))) pa_0)))) (pa_c (pd_fz (pd_lst (pa_c (pd_fz (pd_lst (pa_c pd_int pa_0))) pa_0))) pa_0))))))))))))))))
  (sd_one (sd_ret (pd_add (pd_var (pv 1)) (pd_lst (pa_c (pd_fz (pd_lst (pa_c (pd_fz (pd_sub (pd_ng pd_int) (pd_mod (pd_var (pv 0)) pd_int))) pa_0))) (pa_c (pd_fz (pd_lst (pa_c pd_int (pa_c pd_int pa_0)))) pa_0)))))))) rd_law_bad_places
set_option maxHeartbeats 4000000 in
theorem ok_law_bad_kinds (t : Tx K mg) (F : FunD K "_law_bad_kinds" "_law_bad_kinds" (defArgs s_law_bad_kinds) (defBody s_law_bad_kinds) (defScope s_law_bad_kinds) [] [] f fd) : FnOk P w K mg base CX0 1 f fd ["_law_cell"] (spD K 1 (G_law_bad_kinds K)) :=
  fn_ok (T := T_law_bad_kinds K) F sc_law_bad_kinds rfl (fun cdv A outer s H B He hr => (sd_one (sd_ret (pd_lst (pa_c pd_non (pa_c (pd_ng pd_int) (pa_c pd_int (pa_c (pd_fz (pd_add pd_int (pd_mod (pd_var (pv 0)) pd_int))) (pa_c (pd_fz (pd_sub (pd_ng pd_int) (pd_mod (pd_var (pv 0)) pd_int))) (pa_c pd_bl (pa_c pd_str (pa_c (pd_fz (pd_lst (pa_c pd_int pa_0))) pa_0)))))))))))) rd_law_bad_kinds
set_option maxHeartbeats 4000000 in
theorem ok_law (t : Tx K mg) (d_Minds_init : XCDef P w K mg base (He.ga K "Minds") "Minds" 3 2 (G_Minds_init K)) (d_had : XDef P w K mg base "had" 4 4 (G_had K)) (d_law_due : Def P w K mg base "_law_due" 7 3 (G_law_due K)) (d_law_counts : Def P w K mg base "_law_counts" 1 1 (G_law_counts K)) (d_law_bad_pairs : Def P w K mg base "_law_bad_pairs" 1 1 (G_law_bad_pairs K)) (d_law_bad_rows : Def P w K mg base "_law_bad_rows" 1 1 (G_law_bad_rows K)) (d_law_bad_places : Def P w K mg base "_law_bad_places" 1 1 (G_law_bad_places K)) (d_law_bad_kinds : Def P w K mg base "_law_bad_kinds" 1 1 (G_law_bad_kinds K)) (F : FunD K "law" "law" (defArgs s_law) (defBody s_law) (defScope s_law) [] [] f fd) : FnOk P w K mg base CX0 8 f fd ["_law_script"] (spD K 1 (G_law K)) :=
  fn_ok (T := T_law K) F sc_law rfl (fun cdv A outer s H B He hr => (sd_cons (sd_set (i := 1) sc_law.nd (pd_fz (pd_lst (pa_c (pd_tup (pa_c (pd_fz (pd_lst (pa_c pd_int pa_0))) (pa_c (pd_fnc t.v_law_counts) (pa_c pd_int pa_0)))) (pa_c (pd_tup (pa_c (pd_fz (pd_lst (pa_c pd_int pa_0))) (pa_c (pd_fnc t.v_law_bad_pairs) (pa_c pd_int pa_0)))) (pa_c (pd_tup (pa_c (pd_fz (pd_add (pd_lrg2 rfl t.b_list t.b_range pd_int pd_int) (pd_lst (pa_c pd_int pa_0)))) (pa_c (pd_fnc t.v_law_bad_rows) (pa_c pd_int pa_0)))) pa_0))))))
  (sd_cons (sd_set (i := 1) sc_law.nd (pd_fz (pd_add (pd_var (pv 1)) (pd_lst (pa_c (pd_tup (pa_c (pd_fz (pd_lst (pa_c pd_int pa_0))) (pa_c (pd_fnc t.v_law_bad_places) (pa_c pd_int pa_0)))) (pa_c (pd_tup (pa_c (pd_fz (pd_lst (pa_c pd_int (pa_c pd_int (pa_c pd_int (pa_c pd_int pa_0)))))) (pa_c (pd_fnc t.v_law_bad_kinds) (pa_c pd_int pa_0)))) pa_0))))))
  (sd_cons (sd_for rfl (pi_l (pd_var (pv 1))) (pg_t (is := [2, 3, 4]) (pg_tup rfl (pgs_cons (pg_name (i := 2) sc_law.nd rfl (.inl rfl)) (pgs_cons (pg_name (i := 3) sc_law.nd rfl (.inl rfl)) (pgs_cons (pg_name (i := 4) sc_law.nd rfl (.inr rfl)) pgs_nil))))) (sd_cons (sd_for rfl (pi_l (pd_var (pv 2))) (pg_n sc_law.nd (i := 5)) (sd_one (sd_if (pt_n (pt_e (pd_fn (cr_all rfl) cd_all t.b_all boot_all (pa_c (by exact (pd_lc rfl sc_law.nd (pi_l (pd_fz (pd_callV (HV := HV_law K) (n := 1) (k := 1) (fun f G h => by rcases h with ⟨rfl, rfl⟩ | ⟨rfl, rfl⟩ | ⟨rfl, rfl⟩ | ⟨rfl, rfl⟩ | ⟨rfl, rfl⟩ <;> first | exact d_law_counts.fdef t.v_law_counts (by decide) | exact d_law_bad_pairs.fdef t.v_law_bad_pairs (by decide) | exact d_law_bad_rows.fdef t.v_law_bad_rows (by decide) | exact d_law_bad_places.fdef t.v_law_bad_places (by decide) | exact d_law_bad_kinds.fdef t.v_law_bad_kinds (by decide)) (fun f G h => by rcases h with ⟨rfl, rfl⟩ | ⟨rfl, rfl⟩ | ⟨rfl, rfl⟩ | ⟨rfl, rfl⟩ | ⟨rfl, rfl⟩ <;> first | exact hn_law_counts | exact hn_law_bad_pairs | exact hn_law_bad_rows | exact hn_law_bad_places | exact hn_law_bad_kinds) (hr.mono (by decide)) (pd_var (pv 3)) (pa_c (pd_fz (pd_fn (call_len_seq) cd_len t.b_len PySem.boot_len (pa_c (pd_var (pv 0)) pa_0))) pa_0)))) (blkOk_by (own := [("_law_thing", 6)]) (N := N_law) (sc := defScope s_law) (by decide +kernel)) (fun _ _ _ _ _ => pg_name sc_law.nd rfl (Or.inl rfl)) (fun _ _ _ _ _ => ptn) (fun _ _ _ _ _ => (pd_fz (pd_def d_law_due hn_law_due (hr.mono (by decide)) (pa_c (pd_var (pv 5)) (pa_c (pd_var (pv 6)) (pa_c (pd_var (pv 4)) pa_0)))))))) pa_0)))) (sd_one (sd_ret pd_bl)) sd_nil)))
  (sd_one (sd_for rfl (pi_l (pd_var (pv 0))) (pg_n sc_law.nd (i := 7)) (sd_cons (sd_set (i := 8) sc_law.nd (pd_fz (pd_callV (HV := HV_law K) (n := 1) (k := 1) (fun f G h => by rcases h with ⟨rfl, rfl⟩ | ⟨rfl, rfl⟩ | ⟨rfl, rfl⟩ | ⟨rfl, rfl⟩ | ⟨rfl, rfl⟩ <;> first | exact d_law_counts.fdef t.v_law_counts (by decide) | exact d_law_bad_pairs.fdef t.v_law_bad_pairs (by decide) | exact d_law_bad_rows.fdef t.v_law_bad_rows (by decide) | exact d_law_bad_places.fdef t.v_law_bad_places (by decide) | exact d_law_bad_kinds.fdef t.v_law_bad_kinds (by decide)) (fun f G h => by rcases h with ⟨rfl, rfl⟩ | ⟨rfl, rfl⟩ | ⟨rfl, rfl⟩ | ⟨rfl, rfl⟩ | ⟨rfl, rfl⟩ <;> first | exact hn_law_counts | exact hn_law_bad_pairs | exact hn_law_bad_rows | exact hn_law_bad_places | exact hn_law_bad_kinds) (hr.mono (by decide)) (pd_var (pv 3)) (pa_c (pd_fz (pd_mod (pd_var (pv 7)) (pd_pow pd_int pd_int))) pa_0))))
  (sd_one (sd_if (pt_n (pt_e (pd_def d_law_due hn_law_due (hr.mono (by decide)) (pa_c (pd_ix (pd_var (pv 2)) (pd_mod (pd_var (pv 7)) (pd_fn (call_len_seq) cd_len t.b_len PySem.boot_len (pa_c (pd_var (pv 2)) pa_0)))) (pa_c (pd_ix (pd_var (pv 8)) (pd_mod (pd_fdiv (pd_var (pv 7)) (pd_fn (call_len_seq) cd_len t.b_len PySem.boot_len (pa_c (pd_var (pv 2)) pa_0))) (pd_fn (call_len_seq) cd_len t.b_len PySem.boot_len (pa_c (pd_var (pv 8)) pa_0)))) (pa_c (pd_var (pv 4)) pa_0)))))) (sd_one (sd_ret pd_bl)) sd_nil)))))))
  (sd_one (sd_ret (pd_and (pd_def d_law_due hn_law_due (hr.mono (by decide)) (pa_c pd_int (pa_c pd_int (pa_c pd_int pa_0)))) (pd_one (pd_cmp (op_eqD (hu64 hr)) od_eq (pd_defX d_had hn_had (hr.mono (by decide)) (pa_c (pd_fz (pd_cdefX d_Minds_init hn_Minds_init (hr.mono (by decide)) (pa_c pd_int (pa_c (pd_fz (pd_lst (pa_c (pd_tup (pa_c pd_int (pa_c pd_int pa_0))) pa_0))) pa_0)))) (pa_c (pd_fz (pd_lst (pa_c pd_int (pa_c pd_int (pa_c pd_int (pa_c pd_int pa_0)))))) (pa_c pd_int (pa_c pd_int pa_0))))) (pd_lst (pa_c pd_int (pa_c pd_int (pa_c pd_int pa_0))))))))))))) rd_law
end
end J.X9
namespace J.X9
open PySem PySem.Spec PyProof.Rows L2
abbrev dd_is_number : He.DefD := ⟨("is_number", none), "is_number", "is_number", defArgs s_is_number, defBody s_is_number, defScope s_is_number, [], []⟩
abbrev dd_is_pair : He.DefD := ⟨("is_pair", none), "is_pair", "is_pair", defArgs s_is_pair, defBody s_is_pair, defScope s_is_pair, [], []⟩
abbrev dd_Minds_init : He.DefD := ⟨("Minds", some "__init__"), "__init__", "Minds.__init__", defArgs s_Minds_init, defBody s_Minds_init, defScope s_Minds_init, [], []⟩
abbrev dd_Minds_mind : He.DefD := ⟨("Minds", some "mind"), "mind", "Minds.mind", defArgs s_Minds_mind, defBody s_Minds_mind, defScope s_Minds_mind, [], []⟩
abbrev dd_Minds_minding : He.DefD := ⟨("Minds", some "minding"), "minding", "Minds.minding", defArgs s_Minds_minding, defBody s_Minds_minding, defScope s_Minds_minding, [], []⟩
abbrev dd_Minds_is_kind : He.DefD := ⟨("Minds", some "is_kind"), "is_kind", "Minds.is_kind", defArgs s_Minds_is_kind, defBody s_Minds_is_kind, defScope s_Minds_is_kind, [], []⟩
abbrev dd_check_row : He.DefD := ⟨("check_row", none), "check_row", "check_row", defArgs s_check_row, defBody s_check_row, defScope s_check_row, [], []⟩
abbrev dd_exchanged : He.DefD := ⟨("exchanged", none), "exchanged", "exchanged", defArgs s_exchanged, defBody s_exchanged, defScope s_exchanged, [], []⟩
abbrev dd_part_of : He.DefD := ⟨("part_of", none), "part_of", "part_of", defArgs s_part_of, defBody s_part_of, defScope s_part_of, [], []⟩
abbrev dd_had : He.DefD := ⟨("had", none), "had", "had", defArgs s_had, defBody s_had, defScope s_had, [], []⟩
abbrev dd_check_two : He.DefD := ⟨("check_two", none), "check_two", "check_two", defArgs s_check_two, defBody s_check_two, defScope s_check_two, [], []⟩
abbrev dd_alike : He.DefD := ⟨("alike", none), "alike", "alike", defArgs s_alike, defBody s_alike, defScope s_alike, [], []⟩
abbrev dd_begins : He.DefD := ⟨("begins", none), "begins", "begins", defArgs s_begins, defBody s_begins, defScope s_begins, [], []⟩
abbrev dd_together : He.DefD := ⟨("together", none), "together", "together", defArgs s_together, defBody s_together, defScope s_together, [], []⟩
abbrev dd_common : He.DefD := ⟨("common", none), "common", "common", defArgs s_common, defBody s_common, defScope s_common, [], []⟩
abbrev dd_firsts : He.DefD := ⟨("firsts", none), "firsts", "firsts", defArgs s_firsts, defBody s_firsts, defScope s_firsts, [], []⟩
abbrev dd_rounds : He.DefD := ⟨("rounds", none), "rounds", "rounds", defArgs s_rounds, defBody s_rounds, defScope s_rounds, [], []⟩
abbrev dd_least : He.DefD := ⟨("least", none), "least", "least", defArgs s_least, defBody s_least, defScope s_least, [], []⟩
abbrev dd_law_ask : He.DefD := ⟨("_law_ask", none), "_law_ask", "_law_ask", defArgs s_law_ask, defBody s_law_ask, defScope s_law_ask, [], []⟩
abbrev dd_law_due : He.DefD := ⟨("_law_due", none), "_law_due", "_law_due", defArgs s_law_due, defBody s_law_due, defScope s_law_due, [], []⟩
abbrev dd_law_counts : He.DefD := ⟨("_law_counts", none), "_law_counts", "_law_counts", defArgs s_law_counts, defBody s_law_counts, defScope s_law_counts, [], []⟩
abbrev dd_law_bad_pairs : He.DefD := ⟨("_law_bad_pairs", none), "_law_bad_pairs", "_law_bad_pairs", defArgs s_law_bad_pairs, defBody s_law_bad_pairs, defScope s_law_bad_pairs, [], []⟩
abbrev dd_law_bad_rows : He.DefD := ⟨("_law_bad_rows", none), "_law_bad_rows", "_law_bad_rows", defArgs s_law_bad_rows, defBody s_law_bad_rows, defScope s_law_bad_rows, [], []⟩
abbrev dd_law_bad_places : He.DefD := ⟨("_law_bad_places", none), "_law_bad_places", "_law_bad_places", defArgs s_law_bad_places, defBody s_law_bad_places, defScope s_law_bad_places, [], []⟩
abbrev dd_law_bad_kinds : He.DefD := ⟨("_law_bad_kinds", none), "_law_bad_kinds", "_law_bad_kinds", defArgs s_law_bad_kinds, defBody s_law_bad_kinds, defScope s_law_bad_kinds, [], []⟩
abbrev dd_law : He.DefD := ⟨("law", none), "law", "law", defArgs s_law, defBody s_law, defScope s_law, [], []⟩
def fnD : List He.DefD := ([dd_is_number, dd_is_pair, dd_Minds_init, dd_Minds_mind, dd_Minds_minding, dd_Minds_is_kind, dd_check_row, dd_exchanged, dd_part_of, dd_had, dd_check_two, dd_alike, dd_begins, dd_together, dd_common, dd_firsts, dd_rounds, dd_least, dd_law_ask, dd_law_due] : List He.DefD) ++ ([dd_law_counts, dd_law_bad_pairs, dd_law_bad_rows, dd_law_bad_places, dd_law_bad_kinds, dd_law] : List He.DefD)
def faD : List He.Fa := ([.free "ValueError", .free "all", .free "bool", .free "int", .free "isinstance", .free "len", .free "list", .free "max", .free "min", .free "range", .free "set", .free "tuple", .glo "BadMinds", .glo "BadPlaces", .glo "BadRow", .glo "DeedError", .glo "Minding", .glo "Minds", .cls "Minds", .glo "_law_bad_kinds"] : List He.Fa) ++ ([.glo "_law_bad_pairs", .glo "_law_bad_places", .glo "_law_bad_rows", .glo "_law_counts", .glo "alike", .glo "begins", .glo "common", .glo "firsts", .glo "least", .glo "rounds", .glo "together", .noat "Minds" "kinds", .noat "Minds" "kept", .noat "Minds" "table", .glo "is_number", .glo "is_pair", .mkr "Minds", .meth "Minds" "mind", .meth "Minds" "minding", .meth "Minds" "is_kind"] : List He.Fa) ++ ([.glo "check_row", .glo "exchanged", .glo "part_of", .glo "had", .glo "check_two", .glo "_law_ask", .glo "_law_due", .glo "law"] : List He.Fa)
def exD : PySem.W.Frag → Bool := exB9
abbrev RR : PySem.W.OpenRow := PySem.W.OpenLaw.row PySem.Challenge.rw_jostle_k09_refused
abbrev hkD : PySem.W.Hook := He.hookX 5 faD fnD [] [] exD
def obD (s : PySem.W.SharedT) : He.AlX := He.obsX 5 faD fnD [] [] exD (HandSHeadRun.getT s)
theorem obD_eq (s : PySem.W.SharedT) : obD s = hkD.obs s.abs := He.obsX_eq (HandSHeadRun.getT_eq s)
def namesD : List Str := (["_wall", "DeedError", "BadMinds", "BadRow", "BadPlaces", "Minding", "is_number", "is_pair", "Minds", "check_row", "exchanged", "part_of", "had", "place_first", "without", "led", "taken", "couples", "starts", "unlike"] : List Str) ++ (["held", "at_odds", "firsts_of", "Answer", "Same", "Unlike", "Rest", "Held", "Both", "Odds", "Shared", "Rounds", "check_two", "alike", "begins", "together", "common", "firsts", "waits", "rounds"] : List Str) ++ (["least", "_law_ask", "_law_due", "_law_counts", "_law_bad_pairs", "_law_bad_rows", "_law_bad_places", "_law_bad_kinds"] : List Str)
theorem runD (w : World) : HandSHeadRun.RunEq RR (PySem.W.view RR.prog [55]) hkD obD 8000 namesD w := by
  intro os
  kernel_rfl
theorem factsD {P : Program} {w w2 : World} {K : PySem.W.Frag} {h : Heap} {mg : Str → Option Value} {f : Addr} (KX : K.In h) (KN : h.Ns mainGlobals mg) (hfa : mg ("law" : Str) = some (.ref f)) (cx : He.SaysX faD fnD [] [] exD w2 h K) :
    ∃ fd : FuncData, (∀ (s : Shared) (v : Value), BindsTo s fd ⟨[v], []⟩ [("_law_script", v)]) ∧ ∀ base : Heap, K.In base → base.Ns mainGlobals mg → FnOk P w K mg base CX0 8 f fd ["_law_script"] (spD K 1 (G_law K)) := by
  have c := cx.t.d
  have t : Tx K mg := ⟨He.free_ok KX KN (c.fact 0 (f := .free "ValueError") rfl),
    He.free_ok KX KN (c.fact 1 (f := .free "all") rfl),
    He.free_ok KX KN (c.fact 2 (f := .free "bool") rfl),
    He.free_ok KX KN (c.fact 3 (f := .free "int") rfl),
    He.free_ok KX KN (c.fact 4 (f := .free "isinstance") rfl),
    He.free_ok KX KN (c.fact 5 (f := .free "len") rfl),
    He.free_ok KX KN (c.fact 6 (f := .free "list") rfl),
    He.free_ok KX KN (c.fact 7 (f := .free "max") rfl),
    He.free_ok KX KN (c.fact 8 (f := .free "min") rfl),
    He.free_ok KX KN (c.fact 9 (f := .free "range") rfl),
    He.free_ok KX KN (c.fact 10 (f := .free "set") rfl),
    He.free_ok KX KN (c.fact 11 (f := .free "tuple") rfl),
    He.glo_ok KX KN (c.fact 12 (f := .glo "BadMinds") rfl),
    He.glo_ok KX KN (c.fact 13 (f := .glo "BadPlaces") rfl),
    He.glo_ok KX KN (c.fact 14 (f := .glo "BadRow") rfl),
    He.glo_ok KX KN (c.fact 15 (f := .glo "DeedError") rfl),
    He.glo_ok KX KN (c.fact 16 (f := .glo "Minding") rfl),
    He.glo_ok KX KN (c.fact 17 (f := .glo "Minds") rfl),
    He.cls_ok (c.fact 18 (f := .cls "Minds") rfl),
    He.glo_ok KX KN (c.fact 19 (f := .glo "_law_bad_kinds") rfl),
    He.glo_ok KX KN (c.fact 20 (f := .glo "_law_bad_pairs") rfl),
    He.glo_ok KX KN (c.fact 21 (f := .glo "_law_bad_places") rfl),
    He.glo_ok KX KN (c.fact 22 (f := .glo "_law_bad_rows") rfl),
    He.glo_ok KX KN (c.fact 23 (f := .glo "_law_counts") rfl),
    He.glo_ok KX KN (c.fact 24 (f := .glo "alike") rfl),
    He.glo_ok KX KN (c.fact 25 (f := .glo "begins") rfl),
    He.glo_ok KX KN (c.fact 26 (f := .glo "common") rfl),
    He.glo_ok KX KN (c.fact 27 (f := .glo "firsts") rfl),
    He.glo_ok KX KN (c.fact 28 (f := .glo "least") rfl),
    He.glo_ok KX KN (c.fact 29 (f := .glo "rounds") rfl),
    He.glo_ok KX KN (c.fact 30 (f := .glo "together") rfl),
    ⟨He.cls_ok (c.fact 18 (f := .cls "Minds") rfl), He.noat_ok (c.fact 31 (f := .noat "Minds" "kinds") rfl)⟩,
    ⟨He.cls_ok (c.fact 18 (f := .cls "Minds") rfl), He.noat_ok (c.fact 32 (f := .noat "Minds" "kept") rfl)⟩,
    ⟨He.cls_ok (c.fact 18 (f := .cls "Minds") rfl), He.noat_ok (c.fact 33 (f := .noat "Minds" "table") rfl)⟩,
    exB9_ok cx.more,
    ((exB9_ok cx.more).one 0 (by decide)).own,
    ((exB9_ok cx.more).one 1 (by decide)).own,
    ((exB9_ok cx.more).one 2 (by decide)).own⟩
  obtain ⟨v_is_number, F_is_number⟩ := c.def_ 0 (d := dd_is_number) rfl
  obtain ⟨v_is_pair, F_is_pair⟩ := c.def_ 1 (d := dd_is_pair) rfl
  obtain ⟨v_Minds_init, F_Minds_init⟩ := c.def_ 2 (d := dd_Minds_init) rfl
  obtain ⟨v_Minds_mind, F_Minds_mind⟩ := c.def_ 3 (d := dd_Minds_mind) rfl
  obtain ⟨v_Minds_minding, F_Minds_minding⟩ := c.def_ 4 (d := dd_Minds_minding) rfl
  obtain ⟨v_Minds_is_kind, F_Minds_is_kind⟩ := c.def_ 5 (d := dd_Minds_is_kind) rfl
  obtain ⟨v_check_row, F_check_row⟩ := c.def_ 6 (d := dd_check_row) rfl
  obtain ⟨v_exchanged, F_exchanged⟩ := c.def_ 7 (d := dd_exchanged) rfl
  obtain ⟨v_part_of, F_part_of⟩ := c.def_ 8 (d := dd_part_of) rfl
  obtain ⟨v_had, F_had⟩ := c.def_ 9 (d := dd_had) rfl
  obtain ⟨v_check_two, F_check_two⟩ := c.def_ 10 (d := dd_check_two) rfl
  obtain ⟨v_alike, F_alike⟩ := c.def_ 11 (d := dd_alike) rfl
  obtain ⟨v_begins, F_begins⟩ := c.def_ 12 (d := dd_begins) rfl
  obtain ⟨v_together, F_together⟩ := c.def_ 13 (d := dd_together) rfl
  obtain ⟨v_common, F_common⟩ := c.def_ 14 (d := dd_common) rfl
  obtain ⟨v_firsts, F_firsts⟩ := c.def_ 15 (d := dd_firsts) rfl
  obtain ⟨v_rounds, F_rounds⟩ := c.def_ 16 (d := dd_rounds) rfl
  obtain ⟨v_least, F_least⟩ := c.def_ 17 (d := dd_least) rfl
  obtain ⟨v_law_ask, F_law_ask⟩ := c.def_ 18 (d := dd_law_ask) rfl
  obtain ⟨v_law_due, F_law_due⟩ := c.def_ 19 (d := dd_law_due) rfl
  obtain ⟨v_law_counts, F_law_counts⟩ := c.def_ 20 (d := dd_law_counts) rfl
  obtain ⟨v_law_bad_pairs, F_law_bad_pairs⟩ := c.def_ 21 (d := dd_law_bad_pairs) rfl
  obtain ⟨v_law_bad_rows, F_law_bad_rows⟩ := c.def_ 22 (d := dd_law_bad_rows) rfl
  obtain ⟨v_law_bad_places, F_law_bad_places⟩ := c.def_ 23 (d := dd_law_bad_places) rfl
  obtain ⟨v_law_bad_kinds, F_law_bad_kinds⟩ := c.def_ 24 (d := dd_law_bad_kinds) rfl
  obtain ⟨v_law, F_law⟩ := c.def_ 25 (d := dd_law) rfl
  have d_is_number : ∀ base : Heap, Def P w K mg base "is_number" 1 1 (G_is_number K) := fun base => ⟨_, v_is_number, _, ok_is_number t F_is_number, He.glo_ok KX KN (c.fact 34 (f := .glo "is_number") rfl), F_is_number.kp, F_is_number.bindsN fun _ _ _ _ _ _ us hl => match us, hl with | [_], _ => rfl⟩
  have d_is_pair : ∀ base : Heap, Def P w K mg base "is_pair" 2 2 (G_is_pair K) := fun base => ⟨_, v_is_pair, _, ok_is_pair t (d_is_number base) F_is_pair, He.glo_ok KX KN (c.fact 35 (f := .glo "is_pair") rfl), F_is_pair.kp, F_is_pair.bindsN fun _ _ _ _ _ _ us hl => match us, hl with | [_, _], _ => rfl⟩
  have d_Minds_init : ∀ base : Heap, XCDef P w K mg base (He.ga K "Minds") "Minds" 3 2 (G_Minds_init K) := fun base => ⟨_, v_Minds_init, _, ok_Minds_init t (d_is_number base) (d_is_pair base) F_Minds_init, He.glo_ok KX KN (c.fact 17 (f := .glo "Minds") rfl), He.mkr_ok (c.fact 36 (f := .mkr "Minds") rfl), F_Minds_init.bindsN fun _ _ _ _ _ _ us hl => match us, hl with | [_, _, _], _ => rfl⟩
  have d_Minds_minding : ∀ base : Heap, MDef P w K mg base (He.ga K "Minds") "minding" 1 3 (G_Minds_minding K) := fun base => ⟨_, v_Minds_minding, _, ok_Minds_minding t F_Minds_minding, He.meth_ok (c.fact 38 (f := .meth "Minds" "minding") rfl), F_Minds_minding.bindsN fun _ _ _ _ _ _ us hl => match us, hl with | [_, _, _], _ => rfl⟩
  have d_Minds_is_kind : ∀ base : Heap, MDef P w K mg base (He.ga K "Minds") "is_kind" 2 2 (G_Minds_is_kind K) := fun base => ⟨_, v_Minds_is_kind, _, ok_Minds_is_kind t (d_is_number base) F_Minds_is_kind, He.meth_ok (c.fact 39 (f := .meth "Minds" "is_kind") rfl), F_Minds_is_kind.bindsN fun _ _ _ _ _ _ us hl => match us, hl with | [_, _], _ => rfl⟩
  have d_check_row : ∀ base : Heap, XDef P w K mg base "check_row" 3 2 (G_check_row K) := fun base => ⟨_, v_check_row, _, ok_check_row t (d_Minds_is_kind base) F_check_row, He.glo_ok KX KN (c.fact 40 (f := .glo "check_row") rfl), F_check_row.kp, F_check_row.bindsN fun _ _ _ _ _ _ us hl => match us, hl with | [_, _], _ => rfl⟩
  have d_part_of : ∀ base : Heap, Def P w K mg base "part_of" 1 3 (G_part_of K) := fun base => ⟨_, v_part_of, _, ok_part_of t F_part_of, He.glo_ok KX KN (c.fact 42 (f := .glo "part_of") rfl), F_part_of.kp, F_part_of.bindsN fun _ _ _ _ _ _ us hl => match us, hl with | [_, _, _], _ => rfl⟩
  have d_had : ∀ base : Heap, XDef P w K mg base "had" 4 4 (G_had K) := fun base => ⟨_, v_had, _, ok_had t (d_Minds_minding base) (d_check_row base) (d_part_of base) F_had, He.glo_ok KX KN (c.fact 43 (f := .glo "had") rfl), F_had.kp, F_had.bindsN fun _ _ _ _ _ _ us hl => match us, hl with | [_, _, _, _], _ => rfl⟩
  have d_Minds_mind : ∀ base : Heap, XMDef P w K mg base (He.ga K "Minds") "mind" 4 3 (G_Minds_mind K) := fun base => ⟨_, v_Minds_mind, _, ok_Minds_mind t (d_check_row base) F_Minds_mind, He.meth_ok (c.fact 37 (f := .meth "Minds" "mind") rfl), F_Minds_mind.bindsN fun _ _ _ _ _ _ us hl => match us, hl with | [_, _, _], _ => rfl⟩
  have d_exchanged : ∀ base : Heap, XDef P w K mg base "exchanged" 4 3 (G_exchanged K) := fun base => ⟨_, v_exchanged, _, ok_exchanged t (d_is_number base) (d_check_row base) F_exchanged, He.glo_ok KX KN (c.fact 41 (f := .glo "exchanged") rfl), F_exchanged.kp, F_exchanged.bindsN fun _ _ _ _ _ _ us hl => match us, hl with | [_, _, _], _ => rfl⟩
  have d_check_two : ∀ base : Heap, XDef P w K mg base "check_two" 4 3 (G_check_two K) := fun base => ⟨_, v_check_two, _, ok_check_two t (d_check_row base) F_check_two, He.glo_ok KX KN (c.fact 44 (f := .glo "check_two") rfl), F_check_two.kp, F_check_two.bindsN fun _ _ _ _ _ _ us hl => match us, hl with | [_, _, _], _ => rfl⟩
  have d_alike : ∀ base : Heap, XDef P w K mg base "alike" 5 3 (G_alike K) := fun base => ⟨_, v_alike, _, ok_alike t (d_check_two base) F_alike, He.glo_ok KX KN (c.fact 24 (f := .glo "alike") rfl), F_alike.kp, F_alike.bindsN fun _ _ _ _ _ _ us hl => match us, hl with | [_, _, _], _ => rfl⟩
  have d_begins : ∀ base : Heap, XDef P w K mg base "begins" 5 3 (G_begins K) := fun base => ⟨_, v_begins, _, ok_begins t (d_check_two base) F_begins, He.glo_ok KX KN (c.fact 25 (f := .glo "begins") rfl), F_begins.kp, F_begins.bindsN fun _ _ _ _ _ _ us hl => match us, hl with | [_, _, _], _ => rfl⟩
  have d_together : ∀ base : Heap, XDef P w K mg base "together" 5 3 (G_together K) := fun base => ⟨_, v_together, _, ok_together t (d_check_two base) F_together, He.glo_ok KX KN (c.fact 30 (f := .glo "together") rfl), F_together.kp, F_together.bindsN fun _ _ _ _ _ _ us hl => match us, hl with | [_, _, _], _ => rfl⟩
  have d_common : ∀ base : Heap, XDef P w K mg base "common" 5 3 (G_common K) := fun base => ⟨_, v_common, _, ok_common t (d_check_two base) F_common, He.glo_ok KX KN (c.fact 26 (f := .glo "common") rfl), F_common.kp, F_common.bindsN fun _ _ _ _ _ _ us hl => match us, hl with | [_, _, _], _ => rfl⟩
  have d_firsts : ∀ base : Heap, XDef P w K mg base "firsts" 4 2 (G_firsts K) := fun base => ⟨_, v_firsts, _, ok_firsts t (d_check_row base) F_firsts, He.glo_ok KX KN (c.fact 27 (f := .glo "firsts") rfl), F_firsts.kp, F_firsts.bindsN fun _ _ _ _ _ _ us hl => match us, hl with | [_, _], _ => rfl⟩
  have d_rounds : ∀ base : Heap, XDef P w K mg base "rounds" 4 2 (G_rounds K) := fun base => ⟨_, v_rounds, _, ok_rounds t (d_check_row base) F_rounds, He.glo_ok KX KN (c.fact 29 (f := .glo "rounds") rfl), F_rounds.kp, F_rounds.bindsN fun _ _ _ _ _ _ us hl => match us, hl with | [_, _], _ => rfl⟩
  have d_least : ∀ base : Heap, XDef P w K mg base "least" 4 2 (G_least K) := fun base => ⟨_, v_least, _, ok_least t (d_check_row base) F_least, He.glo_ok KX KN (c.fact 28 (f := .glo "least") rfl), F_least.kp, F_least.bindsN fun _ _ _ _ _ _ us hl => match us, hl with | [_, _], _ => rfl⟩
  have d_law_ask : ∀ base : Heap, XDef P w K mg base "_law_ask" 6 2 (G_law_ask K) := fun base => ⟨_, v_law_ask, _, ok_law_ask t (d_Minds_init base) (d_Minds_mind base) (d_exchanged base) (d_had base) (d_alike base) (d_begins base) (d_together base) (d_common base) (d_firsts base) (d_rounds base) (d_least base) F_law_ask, He.glo_ok KX KN (c.fact 45 (f := .glo "_law_ask") rfl), F_law_ask.kp, F_law_ask.bindsN fun _ _ _ _ _ _ us hl => match us, hl with | [_, _], _ => rfl⟩
  have d_law_due : ∀ base : Heap, Def P w K mg base "_law_due" 7 3 (G_law_due K) := fun base => ⟨_, v_law_due, _, ok_law_due t (d_law_ask base) F_law_due, He.glo_ok KX KN (c.fact 46 (f := .glo "_law_due") rfl), F_law_due.kp, F_law_due.bindsN fun _ _ _ _ _ _ us hl => match us, hl with | [_, _, _], _ => rfl⟩
  have d_law_counts : ∀ base : Heap, Def P w K mg base "_law_counts" 1 1 (G_law_counts K) := fun base => ⟨_, v_law_counts, _, ok_law_counts t F_law_counts, He.glo_ok KX KN (c.fact 23 (f := .glo "_law_counts") rfl), F_law_counts.kp, F_law_counts.bindsN fun _ _ _ _ _ _ us hl => match us, hl with | [_], _ => rfl⟩
  have d_law_bad_pairs : ∀ base : Heap, Def P w K mg base "_law_bad_pairs" 1 1 (G_law_bad_pairs K) := fun base => ⟨_, v_law_bad_pairs, _, ok_law_bad_pairs t F_law_bad_pairs, He.glo_ok KX KN (c.fact 20 (f := .glo "_law_bad_pairs") rfl), F_law_bad_pairs.kp, F_law_bad_pairs.bindsN fun _ _ _ _ _ _ us hl => match us, hl with | [_], _ => rfl⟩
  have d_law_bad_rows : ∀ base : Heap, Def P w K mg base "_law_bad_rows" 1 1 (G_law_bad_rows K) := fun base => ⟨_, v_law_bad_rows, _, ok_law_bad_rows t F_law_bad_rows, He.glo_ok KX KN (c.fact 22 (f := .glo "_law_bad_rows") rfl), F_law_bad_rows.kp, F_law_bad_rows.bindsN fun _ _ _ _ _ _ us hl => match us, hl with | [_], _ => rfl⟩
  have d_law_bad_places : ∀ base : Heap, Def P w K mg base "_law_bad_places" 1 1 (G_law_bad_places K) := fun base => ⟨_, v_law_bad_places, _, ok_law_bad_places t F_law_bad_places, He.glo_ok KX KN (c.fact 21 (f := .glo "_law_bad_places") rfl), F_law_bad_places.kp, F_law_bad_places.bindsN fun _ _ _ _ _ _ us hl => match us, hl with | [_], _ => rfl⟩
  have d_law_bad_kinds : ∀ base : Heap, Def P w K mg base "_law_bad_kinds" 1 1 (G_law_bad_kinds K) := fun base => ⟨_, v_law_bad_kinds, _, ok_law_bad_kinds t F_law_bad_kinds, He.glo_ok KX KN (c.fact 19 (f := .glo "_law_bad_kinds") rfl), F_law_bad_kinds.kp, F_law_bad_kinds.bindsN fun _ _ _ _ _ _ us hl => match us, hl with | [_], _ => rfl⟩
  have e := hfa.symm.trans (He.glo_ok KX KN (c.fact 47 (f := .glo "law") rfl))
  cases e
  have b := FunD.bindsA (ps := ["_law_script"]) F_law fun _ _ _ _ _ _ us hl => match us, hl with | [_], _ => rfl
  exact ⟨v_law, fun s v => b s [v] rfl, fun base _ _ => ok_law t (d_Minds_init base) (d_had base) (d_law_due base) (d_law_counts base) (d_law_bad_pairs base) (d_law_bad_rows base) (d_law_bad_places base) (d_law_bad_kinds base) F_law⟩
end J.X9
open PySem PySem.W PySem.Calls PyProof.Rows
theorem PySem.Challenge.cw_jostle_k09_refused_holds : PySem.Challenge.rw_jostle_k09_refused.Holds := by
  w_on; o_law
  refine HandSHeadRun.head_any (r := OpenLaw.row PySem.Challenge.rw_jostle_k09_refused) (q := view (OpenLaw.row PySem.Challenge.rw_jostle_k09_refused).prog [55]) (H := J.X9.hkD) (ob := J.X9.obD) (M := 8000) (loose := J.X9.namesD) (d := HandSHeadRun.topDef (OpenLaw.row PySem.Challenge.rw_jostle_k09_refused).prog 55) (kwd := []) J.X9.obD_eq
    (by kernel_rfl) (fun s => by kernel_rfl) J.X9.runD (by kernel_rfl) (by kernel_rfl) (by kernel_rfl) (by rfl) (by first | assumption | decide +kernel) (by decide +kernel) ⟨rfl, rfl, rfl, rfl, rfl, by decide +kernel⟩ ?hw ?hc
  case hw => w_witness2
  case hc =>
    refine L2.walk_ofE (l := PySem.Challenge.rw_jostle_k09_refused) (n := 63) (k := 8) (x := "_law_script") (CX := L2.CX0) rfl (by decide) (by kernel_rfl) ⟨rfl, by decide, by decide⟩ ?F (fun _ _ _ _ z => z)
    intro w mg fa h Y NS hmg0
    obtain ⟨K, KX, c⟩ := Y
    have hmg : mg ("law" : PySem.Str) = some (.ref fa) := by
      have e : (HandSHeadRun.topDef (OpenLaw.row PySem.Challenge.rw_jostle_k09_refused).prog 55).name = ("law" : PySem.Str) := by kernel_rfl
      rw [← e]
      exact hmg0
    obtain ⟨fd, hb, hF⟩ := J.X9.factsD (P := (PySem.Challenge.rw_jostle_k09_refused).prog) (w := w) KX NS hmg c
    refine ⟨K, fd, J.spD K 1 (J.X9.G_law K), KX, hb, fun H a ns hl _ hS => ⟨rfl, [.scr ns], fun d => d = .bl true, H, ⟨ns, rfl, hl, rfl⟩, L2.Same.refl _, .cons (.scr hS) .nil, fun v d G0 G hd _ r => ?_⟩, hF⟩
    subst hd
    exact J.res_bl r
