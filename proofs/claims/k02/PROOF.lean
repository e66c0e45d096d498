import PyProof.Rows.All
import Wide.All
import OpenK.AllK
import Wide.FinOn
import HandS.SetFor
import PyProof.Rows.SetFrom
import HandS.SortInts
import HandS.RevRange
import PyProof.CollectIter
import HandS.Base
import HandS.Call
import HandS.List
import HandS.Comp
import HandS.Ends
import HandS.Words
import HandS.WordsList
import HandS.Style
import HandS.Deep
import HandS.IsInst
import HandS.Dict
import HandS.Iter
import HandS.Conv
import HandS.Defaults
import HandS.TupSets
import HandS.HeadHook4
import KE.KStateDown
import Lean
import HandS.More
import HandS.WordsExc
import HandS.Head0
import HandS.Head1
import HandS.Head2
import HandS.HeadEnd
import HandS.HeadHook1
import HandS.HeadHook2
import PySem.Challenge.RW_jostle_k02_whole_alike
set_option Elab.async false
set_option linter.all false
set_option maxRecDepth 100000
set_option maxHeartbeats 4000000
/-! S0: set(xs), xs a list of ints of any number: its members -/
namespace SLI
open PySem PySem.Spec PyProof.Rows L2

def ns0 (w : World) : Obj := { cls := .type "set", dict := none, data := .set #[] 0 (.fresh 0 0 (!w.params.followText "set-order")) }
/-- the members of the set at a, told by a list -/
def Mem (w : World) (h : Heap) (a : Addr) (ns : List Int) : Prop := ∃ c, c ≤ ns.length ∧ SetR w h a (fun j => decide (j ∈ ns)) c
section
variable {P : Program} {w : World} {A : Around} {E : Value → Shared → Prop} {s : Shared}
theorem vals_at {us : Array Value} {ns : List Int} (hi : IntsAre us.toList ns) : ∀ (i : Nat) (v : Value), us[i]? = some v → ∃ k t, ns[i]? = some k ∧ v = .int k t := fun i v e => by
  have le := IntsAre.length hi
  obtain ⟨t, q⟩ := IntsAre.int_at hi i v (by rw [Array.getElem?_toList]; exact e)
  have lt : i < ns.length := by
    rw [← le, Array.length_toList]
    exact (Array.getElem?_eq_some_iff.mp e).1
  exact ⟨ns[i], t, List.getElem?_eq_getElem lt, by rw [q, List.getD_eq_getElem?_getD, List.getElem?_eq_getElem lt]; rfl⟩
set_option maxHeartbeats 6000000 in
theorem set_of_list {l : Addr} {us : Array Value} {ns : List Int} {Q : Value → Shared → Prop} (calm : A.handled = none) (hl : s.heap.IsList l us) (hi : IntsAre us.toList ns) (few : ns.length + 1 < scanBound)
    (q : ∀ h' tk, Mem w h' s.heap.objs.size ns → (∀ b o, s.heap.get? b = some o → h'.get? b = some o) → Q (.ref s.heap.objs.size) { s with heap := h', toks := tk }) : wpAny (model P w) A (call (.type "set") [.ref l]) Q E s := by
  have sz : us.size = ns.length := by
    have z := IntsAre.length hi
    rwa [Array.length_toList] at z
  have ⟨c, tl, hmro⟩ := F.called_set.mro
  have a1 := F.called_set.made
  have a2 := F.called_set.sub
  apply wpAny_call
  apply codeAny_of_tree
  show wpAny _ _ (callAny (.type "set") _) _ _ _
  refine wpAny_pure ⟨Code.quiet_builtin _ (by decide +kernel), ?_⟩
  refine codeAny_builtin F.entry_type_call ?_
  rw [Around.under_plain (weight_type_call_type "set" [.ref l] []) rfl]
  have a3 := F.called_set.notType
  have a4 := F.called_set.canCreate
  have a5 := F.typeCall_set_1 (.ref l)
  repeat (any_goals (first | assumption | wp_step))
  apply codeAny_mono (code_set_led1 (.ref l) (E := E) (Q₁ := fun ob s₁ => ob = .ref s.heap.objs.size ∧ s₁ = { s with heap := s.heap.push (ns0 w) }) ⟨rfl, rfl⟩)
  intro r s₁ hr
  match r, hr with
  | .error e, hr => exact hr
  | .ok (.ret ob), hr =>
    obtain ⟨rfl, rfl⟩ := hr
    have at0 : (s.heap.push (ns0 w)).get? s.heap.objs.size = some (ns0 w) := Heap.get?_push_size _ rfl
    have ty0 : Shared.TypeIs { s with heap := s.heap.push (ns0 w) } (.ref s.heap.objs.size) "set" := ⟨_, at0, rfl⟩
    have b1 := F.called_set.init.lookup
    have b2 := F.called_set.init.bind (.ref s.heap.objs.size)
    repeat (any_goals (first | assumption | wp_step))
    refine codeAny_mono (codeAny_call_builtin (R := wants (fun r s₂ => r = .none ∧ ∃ h' tk, s₂ = { s with heap := h', toks := tk } ∧ Mem w h' s.heap.objs.size ns ∧ (∀ b o, s.heap.get? b = some o → h'.get? b = some o)) E) F.called_set.init.plain F.entry_set_init (check_set_init_1 ty0 ?_)) ?_
    · have ⟨ol, g0, g1, n0, g2⟩ := hl
      obtain ⟨oc, od, oda, osl⟩ := ol
      dsimp only at g1 g2
      subst g1
      subst g2
      have low : l < s.heap.objs.size := Heap.lt_size g0
      have gl : (s.heap.push (ns0 w)).get? l = some { cls := .type "list", dict := od, data := .seq us n0, slots := osl } := Heap.get?_push_of_some _ g0
      have gL : (s.heap.push (ns0 w)).IsList l us := ⟨_, gl, rfl, n0, rfl⟩
      have c1 := F.sub_list_set
      have c2 := F.sub_list_frozenset
      have c3 : (Value.type "list" == Value.type "dict") = false := by decide
      have size1 : (s.heap.push (ns0 w)).objs.size = s.heap.objs.size + 1 := Heap.size_push ..
      have far : l ≠ (s.heap.push (ns0 w)).objs.size := by rw [size1]; exact Nat.ne_of_lt (Nat.lt_succ_of_lt low)
      unfold Builtin.«set.__init__» noKeywords Builtin.Frozenset.updateFrom
      generalize hit : pyIter = it
      wp_walk
      subst hit
      apply wpAny_pyIter_list gL
      refine wpAny_bind (wpAny_runValue ?_)
      have calm3 : A.in1.in1.in1.handled = none := by simp [calm]
      refine set_update_ints ((Walks.list calm3 _ l far us).toS) s.heap.objs.size ?_ ns sz few (vals_at hi) (us.size - 0) 0 _ (by omega) (Nat.zero_le _) ⟨⟨_, Heap.get?_push_size _ rfl, rfl, rfl⟩, gL.push _⟩ ⟨0, Nat.le_refl 0, ?_⟩ ?_
      · rw [size1]
        simp only [List.mem_cons, List.not_mem_nil, or_false, not_or]
        exact ⟨Nat.ne_of_lt (Nat.lt_succ_self _), (Nat.ne_of_lt low).symm⟩
      · exact setR_new_at (Heap.get?_push_of_some _ at0)
      · intro t c mv hc R
        have eg : t.gens = s.gens := mv.gens
        have ed : t.drawn = s.drawn := mv.drawn
        have eo : t.os = s.os := mv.os
        obtain ⟨h', g', d', tk', o'⟩ := t
        dsimp only at eg ed eo
        subst eg ed eo
        show wpAny _ _ _ _ _ _
        refine wpAny_pure ?_
        show wpAny _ _ (ret Value.none) _ _ _
        refine wpAny_pure ⟨rfl, h', tk', rfl, ⟨c, by omega, R⟩, fun b o e => ?_⟩
        have lo : b < s.heap.objs.size := Heap.lt_size e
        refine mv.heap b o ?_ (Heap.get?_push_of_some _ (Heap.get?_push_of_some _ e))
        rw [size1]
        simp only [List.mem_cons, List.not_mem_nil, or_false, not_or]
        exact ⟨Nat.ne_of_lt lo, Nat.ne_of_lt (Nat.lt_succ_of_lt lo)⟩
    · intro r2 s2 hr2
      match r2, hr2 with
      | .error e, hr2 => exact hr2
      | .ok (.ret u), hr2 =>
        obtain ⟨rfl, h', tk, rfl, R, k⟩ := hr2
        repeat (any_goals (first | assumption | wp_step))
        exact q h' tk R k
      | .ok (.next), hr2 => exact hr2.elim
      | .ok (.brk), hr2 => exact hr2.elim
      | .ok (.cont), hr2 => exact hr2.elim
end
end SLI
/-! S1: sorted(set(xs)), ints, any number of them -/
namespace SLI
open PySem PySem.Spec PyProof.Rows L2

section
variable {P : Program} {w : World} {A : Around} {E : Value → Shared → Prop} {s : Shared}
theorem sorted_members {a : Addr} {ns : List Int} {Q : Value → Shared → Prop} (R : Mem w s.heap a ns) (calm : A.handled = none) (small : ns.length ≤ 1000)
    (q : ∀ s' p us ep xs, (∀ b o, s.heap.get? b = some o → s'.heap.get? b = some o) → s'.gens = s.gens → s'.os = s.os → s.heap.objs.size ≤ p → s'.heap.get? p = some (seqObj "list" us ep) → IntsAre us.toList xs → xs.Pairwise (· < ·) → (∀ k, k ∈ xs ↔ k ∈ ns) → xs.length ≤ ns.length → Q (.ref p) s') :
    wpAny (model P w) A (call (.builtin "sorted") [.ref a]) Q E s := by
  have ⟨c, hc, o, es, ep, t, g0, g1, g2, g3, g4, g5, g6, g7, g8, g9, g10⟩ := R
  apply Calls.call_function_entry kind_sorted plain_sorted entry_sorted (args_sorted1 _)
  unfold Builtin.«sorted»
  refine wpAny_bind (m := checkCount "sorted" 1 1 _) (wpAny_pure ?_)
  apply wpAny_bind
  apply collect_set (A := A.in1) calm ⟨o, g0, g1.1, g2⟩ g7 g6 g9 g10
  intro s1 vs k1 z1 e1 e2 pm
  have len : vs.length = c := by rw [pm.length_eq, List.length_map, Array.length_toList, g8]
  have hints : IntsAre vs (vs.map Builtin.Re.reRawOf) := by
    refine ints_of vs fun v hv => ?_
    have ⟨e, he, r⟩ := List.mem_map.mp (pm.mem_iff.mp hv)
    have ⟨k, tk, h1, _⟩ := g3 e he
    exact ⟨k, tk, r ▸ h1⟩
  have keys : (vs.map Builtin.Re.reRawOf).Perm (es.toList.map keyOf) := by
    have z := pm.map Builtin.Re.reRawOf
    rwa [List.map_map] at z
  have fits : vs.length ≤ sizeLine := by
    rw [len, sizeLine_eq]
    omega
  refine wpAny_bind (wpAny_newList ?_ fits)
  have at1 : (s1.heap.push (seqObj "list" vs.toArray 0)).get? s1.heap.objs.size = some (seqObj "list" vs.toArray 0) := Heap.get?_push_size _ rfl
  refine wpAny_bind (wpAny_holding (wpAny_call_entry slot_list_sort ⟨_, at1, rfl⟩ entry_list_sort (SrtO.list_sort_ord SrtO.swo_int at1 fits (fun two => SrtO.ints_sortable hints two) fun out h1 h2 => ⟨_, rfl, ?_⟩) (args_list_sort _)))
  have ⟨i1, i2, i3⟩ := SrtO.ints_out hints h1 h2
  have ⟨ep2, at2⟩ := sortedHeap_at (vs := vs) (out := out.toArray) at1
  have all := i2.trans keys
  have nd := all.nodup_iff.mpr g4
  refine wpAny_pure ⟨_, rfl, q _ s1.heap.objs.size out.toArray ep2 _ (fun b u e => ?_) e1 e2 z1 at2 (by simpa using i1) (lt_of_le_nodup _ i3 nd) (fun k => ?_) ?_⟩
  · have old := k1 b u e
    have low := Heap.lt_size old
    show (sortedHeap (s1.heap.push (seqObj "list" vs.toArray 0)) s1.heap.objs.size vs out.toArray).get? b = some u
    rw [sortedHeap_old (Nat.ne_of_lt low) (by rw [size_push']; exact Nat.lt_succ_of_lt low)]
    exact Heap.get?_push_of_some _ old
  · rw [all.mem_iff, ← g5 k, decide_eq_true_eq]
  · rw [all.length_eq, List.length_map, Array.length_toList, g8]
    exact hc
end
section
variable {X : Cx}
/-- sorted(set(a)): the members, rising -/
def tSS (K : PySem.W.Frag) (ta : TE) : TE := fun σ H Q => ta σ H fun x H1 => ∃ (l : Addr) (ns : List Int), x = V.ref l ∧ SqL K H1 l (ns.map V.int) ∧ ns.length ≤ 1000 ∧ ∀ (xs : List Int) (p : Addr), xs.Pairwise (· < ·) → (∀ k, k ∈ xs ↔ k ∈ ns) → H1 p = none → Q (.ref p) (upd H1 p (.lst (xs.map V.int)))
theorem pe_ss {a : Expr} {ta : TE} {p p2 q pos : Pos} (hc : X.calm = true) (hg : Gl X "sorted") (hm : X.mg "sorted" = none) (hg2 : Gl X "set") (hm2 : X.mg "set" = none) (ha : PE X a ta)
    (na : starEach [a] X.env = (false, eval a X.env) :: starEach [] X.env := by rfl) : PE X (.Call (.Name "sorted" p) [.Call (.Name "set" p2) [a] [] q] [] pos) (tSS X.K ta) := by
  constructor
  intro pins s σ H Q I h
  apply Call_ (ld_blt I hg hm boot_sorted ?_)
  refine PyProof.Rows.callWith_builtin1 (PyProof.Rows.args_cons ?_ rfl) rfl rfl
  apply Call_ (ld_blt I hg2 hm2 PyProof.Rows.boot_set ?_)
  refine PyProof.Rows.callWith_type1 (PyProof.Rows.args_cons (thn (ha.run pins s σ H _ I h) ?_) na) na rfl
  rintro v s1 ⟨x, H1, I1, r1, l, ns, rfl, hq, small, k⟩
  cases r1
  apply PyProof.Rows.args_nil
  have ⟨its, r, pl, hz⟩ := I1.list hq
  have len : its.length = ns.length := by rw [← r.length, List.length_map]
  have calm := I1.ok.hd hc
  refine set_of_list calm pl.isList (by simpa using r.ints) (by unfold scanBound; omega) fun h' tk R keep => ?_
  apply PyProof.Rows.args_nil
  have I2 : Inv X pins σ H1 { s1 with heap := h', toks := tk } := I1.kept keep
  refine sorted_members R calm small fun s' p us ep xs k2 eg eo lo hp hi up mem le => ?_
  have none : H1 p = none := I2.hok.fresh lo
  have fits : (xs.map V.int).length ≤ sizeLine := by
    rw [List.length_map, sizeLine_eq]
    omega
  have J : Inv X pins σ (upd H1 p (.lst (xs.map V.int))) { s1 with heap := s'.heap, gens := s'.gens, drawn := s'.drawn, toks := s'.toks } :=
    L2.Inv.call (s := { s1 with heap := h', toks := tk }) I2 (ch := []) (Un.laid k2 lo none) (I2.hok.laid k2 lo ⟨fits, us.toList, ep, vals_of_ints hi, hp⟩) (by rw [eg]; exact I2.bare) (fun _ z => nomatch z)
  have es : s' = { s1 with heap := s'.heap, gens := s'.gens, drawn := s'.drawn, toks := s'.toks } := by
    cases s'
    cases eo
    rfl
  rw [es]
  exact ⟨.ref p, _, J, rfl, k xs p up mem none⟩
end
end SLI
/-! S2: list(it), it over numbers -/
namespace SLI
open PySem PySem.Spec PyProof.Rows L2
theorem hint_meets (I : Addr) (a n c : Int) : Meets (Builtin.«range_iterator.__length_hint__» ⟨[.ref I], []⟩) (fun _ R s => s.heap.get? I = some { cls := .type "range_iterator", dict := none, data := .fields #[rawInt a, rawInt n, rawInt c], slots := #[] } ∧ R (.ok (.ret (.int n s.toks))) { s with toks := s.toks + 1 }) :=
  .of_wp fun prog w A R s h => by
    obtain ⟨hp, g, d, tk, os⟩ := s
    obtain ⟨hl, h⟩ := h
    wp_walk
    exact ⟨_, rfl, h⟩
section
variable {P : Program} {w : World} {A : Around} {E : Value → Shared → Prop} {s : Shared} {I : Addr} {a c : Int} {n : Nat}
theorem hint_call {Q : Value → Shared → Prop} {k : Int} (hit : IsRangeIter s.heap I a k c) (h : Q (.int k s.toks) { s with toks := s.toks + 1 }) : wpAny (model P w) A (call (.builtin "range_iterator.__length_hint__") [.ref I]) Q E s :=
  call_meets PySem.F.slot_range_iterator_length_hint ⟨_, hit, rfl⟩ PySem.F.entry_range_iterator_length_hint (PySem.F.args_range_iterator_length_hint_1 _) (hint_meets I a k c) ⟨hit, h⟩
/-- the numbers that it gives, one behind another, into a new list -/
theorem list_of_rit {Q : Value → Shared → Prop} (calm : A.handled = none) (hit : IsRangeIter s.heap I a (n : Int) c) (few : n ≤ 100000)
    (q : ∀ h' tk us ep, (∀ b o, b ≠ I → s.heap.get? b = some o → h'.get? b = some o) → h'.get? s.heap.objs.size = some { cls := .type "list", dict := none, data := .seq us ep, slots := #[] } → ItemsOf (fun i v => ∃ t, v = .int (a + i * c) t) us n → Q (.ref s.heap.objs.size) { s with heap := h', toks := tk }) :
    wpAny (model P w) A (call (.type "list") [.ref I]) Q E s := by
  have hIl : I < s.heap.objs.size := Heap.lt_size hit
  have nSI : s.heap.objs.size ≠ I := Nat.ne_of_gt hIl
  apply callType_codes (Q₁ := fun ob t => ob = .ref s.heap.objs.size ∧ t = { s with heap := s.heap.push { cls := .type "list", data := .seq #[] } }) F.called_list (F.typeCall_list_1 _) F.entry_list_init (code_list_new _ ⟨rfl, rfl⟩)
  rintro ob t ⟨rfl, rfl⟩
  have new0 : (s.heap.push { cls := .type "list", data := .seq #[] }).get? s.heap.objs.size = some { cls := .type "list", data := .seq #[] } := Heap.get?_push_size _ rfl
  refine ⟨⟨_, new0, rfl⟩, F.args_list_init_2 _ _, ?_⟩
  have W := (Walks.range (prog := P) (w := w) (A := A.in1.in1) calm I a c n).toS
  have apart : s.heap.objs.size ∉ [I] := fun h => nSI (List.mem_singleton.mp h)
  show wpAny _ A.in1.in1 (Builtin.List.listItems (.ref s.heap.objs.size) >>= fun old => Builtin.List.listUpdate (.ref s.heap.objs.size) (fun _ => #[]) >>= fun _ => letGo old.toList.reverse >>= fun _ => Builtin.List.listExtendWith (.ref s.heap.objs.size) (.ref I) .none) _ _ _
  apply wpAny_bind
  unfold Builtin.List.listItems
  refine wpAny_bind (wpAny_seqItems new0 rfl (wpAny_pure ?_))
  show wpAny _ _ (updateSeq s.heap.objs.size (fun _ => #[]) >>= fun _ => letGo (#[] : Array Value).toList.reverse >>= fun _ => Builtin.List.listExtendWith (.ref s.heap.objs.size) (.ref I) .none) _ _ _
  refine wpAny_bind (wpAny_updateSeq new0 rfl ?_)
  have new1 := Heap.get?_update_self (Obj.mapSeq (fun _ => (#[] : Array Value))) new0 rfl
  have keep1 : ∀ b o, s.heap.get? b = some o → ((s.heap.push { cls := .type "list", data := .seq #[] }).update s.heap.objs.size (Obj.mapSeq (fun _ => (#[] : Array Value)))).get? b = some o := fun b o e =>
    (Heap.get?_update_other _ _ (Nat.ne_of_gt (Heap.lt_size e))).trans (Heap.get?_push_of_some _ e)
  refine wpAny_bind (wpAny_letGo ?_)
  have it1 := keep1 I _ hit
  generalize ((s.heap.push { cls := .type "list", data := .seq #[] }).update s.heap.objs.size (Obj.mapSeq (fun _ => (#[] : Array Value)))) = h1 at new1 keep1 it1
  unfold Builtin.List.listExtendWith
  refine wpAny_bind (wpAny_typeOf ⟨_, it1, rfl⟩ ?_)
  have q1 : Builtin.List.listSameRef (.ref s.heap.objs.size) (.ref I) = false := by simp [Builtin.List.listSameRef, nSI]
  have q2 : (Value.type "range_iterator" == Value.type "list") = false := by decide
  have q3 : (Value.type "range_iterator" == Value.type "tuple") = false := by decide
  simp only [q1, q2, q3, Bool.or_false, Bool.false_eq_true, if_false]
  have it2 : IsRangeIter h1 I (a + ((0 : Nat) : Int) * c) ((n : Int) - ((0 : Nat) : Int)) c := by
    have e1 : a + ((0 : Nat) : Int) * c = a := by simp
    have e2 : (n : Int) - ((0 : Nat) : Int) = n := by simp
    rw [e1, e2]
    exact it1
  refine wpAny_bind (W.self 0 _ _ _ it2 ?_)
  refine wpAny_bind (wpAny_holding ?_)
  unfold Builtin.List.listLengthHint
  refine wpAny_bind (wpAny_specialOf ⟨_, it1, rfl⟩ F.nolen_ra ?_)
  show wpAny _ A.in1.in1 (specialOf (Value.ref I) (Str.ofString "__length_hint__") >>= _) _ _ _
  refine wpAny_bind (wpAny_specialOf ⟨_, it1, rfl⟩ F.hint_ra ?_)
  generalize hid : ("range_iterator.__length_hint__" : String) = id0
  wp_delta
  rw [show splitId id0 = some ("range_iterator", "__length_hint__") from by subst hid; decide +kernel]
  subst hid
  refine wpAny_bind (wpAny_isInstance (b := true) ⟨_, it1, rfl⟩ (by rw [isSubtype_type]; kernel_rfl) ?_)
  show wpAny _ _ (call (.builtin "range_iterator.__length_hint__") [.ref I] >>= _) _ _ _
  refine wpAny_bind (hint_call it1 ?_)
  refine wpAny_bind (m := asInt? (.int (n : Int) _)) (wpAny_pure ?_)
  dsimp only
  have short : Builtin.List.listTooLong ((n : Int).toNat) = false := by
    rw [Int.toNat_natCast]
    simp [Builtin.List.listTooLong, sizeLine]
    omega
  rw [if_neg (by rw [short]; decide)]
  refine wpAny_pure ?_
  rw [if_neg (by decide)]
  refine wpAny_pure ⟨plainId_quiet F.plain_extend_loop _, ?_⟩
  refine codeAny_extend_loopS W (by rw [sizeLine_eq]; omega) _ apart _ n 0 _ #[] 0 rfl (Nat.zero_le _) it2 new1 (ItemsOf.nil _) fun t us ep mv at' its => ?_
  refine ⟨rfl, ?_⟩
  rw [Moved.eq_with mv]
  refine q t.heap t.toks us ep (fun b o ne e => mv.heap b o (fun m => ?_) (keep1 b o e)) at' its
  rcases List.mem_cons.mp m with z | z
  · exact absurd (Heap.lt_size e) (by rw [z]; exact Nat.lt_irrefl _)
  · exact ne (List.mem_singleton.mp z)
end
section
variable {X : Cx}
/-- list(reversed(range(..))) -/
def tLrv (tr : L2.St → Hp → (Int → Int → Hp → Prop) → Prop) : TE := fun σ H Q => tr σ H fun a b H1 => -(2 ^ 62) ≤ a ∧ a < 2 ^ 62 ∧ -(2 ^ 62) ≤ b ∧ b < 2 ^ 62 ∧ (b - a).toNat ≤ 100000 ∧ ∀ p, H1 p = none → Q (.ref p) (upd H1 p (.lst ((List.range (b - a).toNat).map fun i => V.int (a + (((b - a).toNat : Nat) : Int) - 1 + (i : Nat) * (-1)))))
theorem vals_its {lo c : Int} {us : Array Value} {n : Nat} (h : ItemsOf (fun i v => ∃ t, v = .int (lo + i * c) t) us n) : Vals ((List.range n).map fun i => V.int (lo + (i : Nat) * c)) us.toList := by
  refine vals_of_at ?_ fun j x u hx hu => ?_
  · rw [List.length_map, List.length_range, Array.length_toList, h.1]
  · rw [List.getElem?_map] at hx
    cases e : (List.range n)[j]? with
    | none => rw [e] at hx; cases hx
    | some i =>
      rw [e] at hx
      cases hx
      have ej : i = j := by
        have z := List.getElem?_eq_some_iff.mp e
        obtain ⟨_, z⟩ := z
        rw [List.getElem_range] at z
        exact z.symm
      subst ej
      rw [Array.getElem?_toList] at hu
      obtain ⟨t, et⟩ := h.2 i u hu
      rw [et]
      exact ⟨t, rfl⟩
theorem pe_lrv {e : Expr} {tr : L2.St → Hp → (Int → Int → Hp → Prop) → Prop} {p p2 pos pos2 : Pos} (hc : X.calm = true) (hg : Gl X "list") (hm : X.mg "list" = none) (hg2 : Gl X "reversed") (hm2 : X.mg "reversed" = none) (he : PRg X e tr)
    (na : starEach [e] X.env = (false, eval e X.env) :: starEach [] X.env := by rfl) (nb : starEach [.Call (.Name "reversed" p2) [e] [] pos2] X.env = (false, eval (.Call (.Name "reversed" p2) [e] [] pos2) X.env) :: starEach [] X.env := by rfl) :
    PE X (.Call (.Name "list" p) [.Call (.Name "reversed" p2) [e] [] pos2] [] pos) (tLrv tr) := by
  constructor
  intro pins s σ H Q I h
  apply Call_ (ld_blt I hg hm boot_list ?_)
  refine PyProof.Rows.callWith_type1 (args_cons ?_ nb) nb rfl
  apply Call_ (ld_blt I hg2 hm2 PyProof.Rows.boot_reversed ?_)
  refine PyProof.Rows.callWith_type1 (args_cons (thn (he pins s σ H _ I h) ?_) na) na rfl
  rintro u s1 ⟨r, a, b, t, w1, v, H1, eu, hr, I1, b1, b2, b3, b4, few, q⟩
  subst eu
  apply args_nil
  refine call_reversed_range hr (smallRev_one b1 b2 b3 b4) ?_
  apply args_nil
  have hn : Builtin.Range.rangeSize a b 1 = (((b - a).toNat : Nat) : Int) := rangeSize_nat a b
  generalize (b - a).toNat = n at *
  have I2 : L2.Inv X pins σ H1 { s1 with heap := s1.heap.push (rngRevObj a b 1) } := I1.kept (t' := s1.toks) fun b o q => Heap.get?_push_of_some _ q
  have hit : IsRangeIter (s1.heap.push (rngRevObj a b 1)) s1.heap.objs.size (a + (n : Int) - 1) (n : Int) (-1) := by
    have e1 : a + (n : Int) - 1 = a + (Builtin.Range.rangeSize a b 1 - 1) * 1 := by rw [hn]; omega
    rw [e1, ← hn]
    exact Heap.get?_push_size _ rfl
  have free : H1 s1.heap.objs.size = none := I1.hok.fresh (Nat.le_refl _)
  refine list_of_rit (s := { s1 with heap := s1.heap.push (rngRevObj a b 1) }) (I1.ok.hd hc) hit few fun h' tk us ep keep at' its => ?_
  have keep2 : ∀ b o, s1.heap.get? b = some o → h'.get? b = some o := fun b o e => keep b o (Nat.ne_of_lt (Heap.lt_size e)) (Heap.get?_push_of_some _ e)
  have sz : s1.heap.objs.size ≤ (s1.heap.push (rngRevObj a b 1)).objs.size := by
    rw [Heap.size_push]
    exact Nat.le_succ _
  refine ⟨.ref (s1.heap.push (rngRevObj a b 1)).objs.size, upd H1 (s1.heap.push (rngRevObj a b 1)).objs.size _, I1.laid keep2 sz (show ObjOk X.prog X.w _ _ _ (.lst ((List.range n).map fun i => V.int (a + (n : Int) - 1 + (i : Nat) * (-1)))) from ⟨?_, us.toList, ep, vals_its its, ?_⟩), rfl, q _ (I1.hok.fresh sz)⟩
  · rw [List.length_map, List.length_range, sizeLine_eq]
    omega
  · rw [Array.toArray_toList]
    exact at'
end
end SLI
/-! J1: pure data, what represents it in a heap, what a def does to it -/
namespace J
open PySem L2

/-- pure data; the o-forms: lists, lists of lists, instances that one holder may change; mv: new and handed over -/
inductive D where
  | non | bl (b : Bool) | int (i : Int) | str (x : Str)
  | lst (ds : List D) | tup (ds : List D) | obj (C : Addr) (gs : List (Str × D)) | dct (ks : List (Int × Int)) | scr (ns : List Int)
  | olst (ds : List D) | oll (dss : List (List D)) | oobj (C : Addr) (gs : List (Str × D)) | mv (d : D)

def tab (ks : List (Int × Int)) : List (List Key × V) := ks.map fun k => ([Sum.inl k.1, Sum.inl k.2], V.bl true)

mutual
inductive Rep (K : PySem.W.Frag) (H : Hp) : V → D → Prop
  | non : Rep K H .non .non
  | bl (b : Bool) : Rep K H (.bl b) (.bl b)
  | int (i : Int) : Rep K H (.int i) (.int i)
  | str (x : Str) : Rep K H (.str x) (.str x)
  | lst {a : Addr} {vs : List V} {ds : List D} : H a = some (.lst vs) → RepL K H vs ds → Rep K H (.ref a) (.lst ds)
  | tup {a : Addr} {vs : List V} {ds : List D} : H a = some (.tup vs) → RepL K H vs ds → Rep K H (.ref a) (.tup ds)
  | obj {a C dx : Addr} {fs : List (Str × V)} {gs : List (Str × D)} : H a = some (.ins C dx fs) → RepF K H fs gs → Rep K H (.ref a) (.obj C gs)
  | dct {a : Addr} {ks : List (Int × Int)} : H a = some (.dT (tab ks)) → Rep K H (.ref a) (.dct ks)
  | scr {a : Addr} {ns : List Int} : SqL K H a (ns.map V.int) → Rep K H (.ref a) (.scr ns)
inductive RepL (K : PySem.W.Frag) (H : Hp) : List V → List D → Prop
  | nil : RepL K H [] []
  | cons {v : V} {d : D} {vs : List V} {ds : List D} : Rep K H v d → RepL K H vs ds → RepL K H (v :: vs) (d :: ds)
inductive RepF (K : PySem.W.Frag) (H : Hp) : List (Str × V) → List (Str × D) → Prop
  | nil : RepF K H [] []
  | cons {x : Str} {v : V} {d : D} {fs : List (Str × V)} {gs : List (Str × D)} : Rep K H v d → RepF K H fs gs → RepF K H ((x, v) :: fs) ((x, d) :: gs)
end

section
variable {K : PySem.W.Frag} {H H' : Hp}
mutual
theorem Rep.mono (e : Same H H') : ∀ (d : D) (v : V), Rep K H v d → Rep K H' v d
  | .non, _, h => by cases h; exact .non
  | .bl _, _, h => by cases h; exact .bl _
  | .int _, _, h => by cases h; exact .int _
  | .str _, _, h => by cases h; exact .str _
  | .lst ds, _, h => by
    cases h with
    | lst h1 h2 => exact .lst (e _ _ h1) (RepL.mono e ds _ h2)
  | .tup ds, _, h => by
    cases h with
    | tup h1 h2 => exact .tup (e _ _ h1) (RepL.mono e ds _ h2)
  | .obj C gs, _, h => by
    cases h with
    | obj h1 h2 => exact .obj (e _ _ h1) (RepF.mono e gs _ h2)
  | .dct ks, _, h => by
    cases h with
    | dct h1 => exact .dct (e _ _ h1)
  | .scr ns, _, h => by
    cases h with
    | scr h1 => exact .scr (e.seq h1)
  | .olst _, _, h => by cases h
  | .oll _, _, h => by cases h
  | .oobj _ _, _, h => by cases h
  | .mv _, _, h => by cases h
theorem RepL.mono (e : Same H H') : ∀ (ds : List D) (vs : List V), RepL K H vs ds → RepL K H' vs ds
  | [], _, h => by cases h; exact .nil
  | d :: ds, _, h => by
    cases h with
    | cons h1 h2 => exact .cons (Rep.mono e d _ h1) (RepL.mono e ds _ h2)
theorem RepF.mono (e : Same H H') : ∀ (gs : List (Str × D)) (fs : List (Str × V)), RepF K H fs gs → RepF K H' fs gs
  | [], _, h => by cases h; exact .nil
  | (x, d) :: gs, _, h => by
    cases h with
    | cons h1 h2 => exact .cons (Rep.mono e d _ h1) (RepF.mono e gs _ h2)
end
theorem Rep.to (h : Rep K H v d) (e : Same H H') : Rep K H' v d := Rep.mono e _ _ h
theorem RepL.to {vs : List V} {ds : List D} (h : RepL K H vs ds) (e : Same H H') : RepL K H' vs ds := RepL.mono e _ _ h
theorem RepF.to {fs : List (Str × V)} {gs : List (Str × D)} (h : RepF K H fs gs) (e : Same H H') : RepF K H' fs gs := RepF.mono e _ _ h
theorem RepL.len : ∀ {vs : List V} {ds : List D}, RepL K H vs ds → vs.length = ds.length
  | _, _, .nil => rfl
  | _, _, .cons _ t => congrArg (· + 1) t.len
theorem RepL.app : ∀ {vs : List V} {ds : List D} {ws : List V} {es : List D}, RepL K H vs ds → RepL K H ws es → RepL K H (vs ++ ws) (ds ++ es)
  | _, _, _, _, .nil, h => h
  | _, _, _, _, .cons a t, h => .cons a (t.app h)
theorem RepL.tk : ∀ {vs : List V} {ds : List D} (n : Nat), RepL K H vs ds → RepL K H (vs.take n) (ds.take n)
  | _, _, 0, _ => .nil
  | _, _, _ + 1, .nil => .nil
  | _, _, n + 1, .cons a t => .cons a (t.tk n)
theorem RepL.dr : ∀ {vs : List V} {ds : List D} (n : Nat), RepL K H vs ds → RepL K H (vs.drop n) (ds.drop n)
  | _, _, 0, h => h
  | _, _, _ + 1, .nil => .nil
  | _, _, n + 1, .cons _ t => t.dr n
theorem RepL.at : ∀ {vs : List V} {ds : List D} {i : Nat} {d : D}, RepL K H vs ds → ds[i]? = some d → ∃ v, vs[i]? = some v ∧ Rep K H v d
  | _, _, _, _, .nil, e => by simp at e
  | _, _, 0, _, .cons a _, e => by
    have e2 := Option.some.inj e
    subst e2
    exact ⟨_, rfl, a⟩
  | _, _, i + 1, _, .cons _ t, e => RepL.at (i := i) t e
theorem RepL.atv : ∀ {vs : List V} {ds : List D} {i : Nat} {v : V}, RepL K H vs ds → vs[i]? = some v → ∃ d, ds[i]? = some d ∧ Rep K H v d
  | _, _, _, _, .nil, e => by simp at e
  | _, _, 0, _, .cons a _, e => by
    have e2 := Option.some.inj e
    subst e2
    exact ⟨_, rfl, a⟩
  | _, _, i + 1, _, .cons _ t, e => RepL.atv (i := i) t e
theorem RepL.rev {vs : List V} {ds : List D} (h : RepL K H vs ds) : RepL K H vs.reverse ds.reverse := by
  induction h using RepL.rec (motive_1 := fun _ _ _ => True) (motive_3 := fun _ _ _ => True) with
  | nil => exact .nil
  | cons a t _ ih =>
    rw [List.reverse_cons, List.reverse_cons]
    exact ih.app (.cons a .nil)
  | _ => trivial
theorem RepL.setI : ∀ {vs : List V} {ds : List D} {v : V} {d : D} (i : Nat), RepL K H vs ds → Rep K H v d → RepL K H (vs.set i v) (ds.set i d)
  | _, _, _, _, _, .nil, _ => .nil
  | _, _, _, _, 0, .cons _ t, h => .cons h t
  | _, _, _, _, i + 1, .cons a t, h => .cons a (t.setI i h)
theorem RepL.ints : ∀ {vs : List V} {ns : List Int}, RepL K H vs (ns.map D.int) → vs = ns.map V.int
  | vs, [], h => by cases h; rfl
  | vs, n :: ns, h => by
    cases h with
    | cons a t =>
      cases a
      rw [t.ints] <;> rfl
theorem RepL.ofInts : ∀ ns : List Int, RepL K H (ns.map V.int) (ns.map D.int)
  | [] => .nil
  | n :: ns => .cons (.int n) (RepL.ofInts ns)
theorem RepL.bools : ∀ {vs : List V} {ns : List Bool}, RepL K H vs (ns.map D.bl) → vs = ns.map V.bl
  | vs, [], h => by cases h; rfl
  | vs, n :: ns, h => by
    cases h with
    | cons a t =>
      cases a
      rw [t.bools] <;> rfl
end
end J
/-! J2: what one holds, the judgements over pure data -/
namespace J
open PySem L2

/-- lists at as, each of its items -/
inductive RepLL (K : PySem.W.Frag) (H0 H : Hp) : List Addr → List (List D) → Prop
  | nil : RepLL K H0 H [] []
  | cons {a : Addr} {vs : List V} {ds : List D} {as : List Addr} {dss : List (List D)} : H a = some (.lst vs) → RepL K H0 vs ds → RepLL K H0 H as dss → RepLL K H0 H (a :: as) (ds :: dss)
inductive Own1 (K : PySem.W.Frag) (H0 H : Hp) : List Addr → V → D → Prop
  | leaf {v : V} {d : D} : Rep K H0 v d → Own1 K H0 H [] v d
  | olst {a : Addr} {vs : List V} {ds : List D} : H a = some (.lst vs) → RepL K H0 vs ds → Own1 K H0 H [a] (.ref a) (.olst ds)
  | oll {a : Addr} {as : List Addr} {dss : List (List D)} : H a = some (.lst (as.map V.ref)) → RepLL K H0 H as dss → Own1 K H0 H (a :: as) (.ref a) (.oll dss)
inductive OwnF (K : PySem.W.Frag) (H0 H : Hp) : List Addr → List (Str × V) → List (Str × D) → Prop
  | nil : OwnF K H0 H [] [] []
  | cons {x : Str} {v : V} {d : D} {fs : List (Str × V)} {gs : List (Str × D)} {p q : List Addr} : Own1 K H0 H p v d → OwnF K H0 H q fs gs → OwnF K H0 H (p ++ q) ((x, v) :: fs) ((x, d) :: gs)
inductive Own (K : PySem.W.Frag) (H0 H : Hp) : List Addr → V → D → Prop
  | one {p : List Addr} {v : V} {d : D} : Own1 K H0 H p v d → Own K H0 H p v d
  | oobj {a C dx : Addr} {fs : List (Str × V)} {gs : List (Str × D)} {p : List Addr} : H a = some (.ins C dx fs) → OwnF K H0 H p fs gs → Own K H0 H (a :: p) (.ref a) (.oobj C gs)

section
variable {K : PySem.W.Frag} {H0 H0' H H' : Hp}
/-- the heap keeps what is held -/
def KeepO (p : List Addr) (H H' : Hp) : Prop := ∀ a ∈ p, ∀ o, H a = some o → H' a = some o
theorem RepLL.mono (e0 : Same H0 H0') : ∀ {as : List Addr} {dss : List (List D)}, KeepO as H H' → RepLL K H0 H as dss → RepLL K H0' H' as dss
  | _, _, _, .nil => .nil
  | _, _, e, .cons h r t => .cons (e _ List.mem_cons_self _ h) (r.to e0) (t.mono e0 fun b hb => e b (List.mem_cons_of_mem _ hb))
theorem Own1.mono (e0 : Same H0 H0') {p : List Addr} {v : V} {d : D} (e : KeepO p H H') (h : Own1 K H0 H p v d) : Own1 K H0' H' p v d := by
  cases h with
  | leaf r => exact .leaf (r.to e0)
  | olst h r => exact .olst (e _ List.mem_cons_self _ h) (r.to e0)
  | oll h r => exact .oll (e _ List.mem_cons_self _ h) (r.mono e0 fun b hb => e b (List.mem_cons_of_mem _ hb))
theorem OwnF.mono (e0 : Same H0 H0') : ∀ {p : List Addr} {fs : List (Str × V)} {gs : List (Str × D)}, KeepO p H H' → OwnF K H0 H p fs gs → OwnF K H0' H' p fs gs
  | _, _, _, _, .nil => .nil
  | _, _, _, e, .cons h t => .cons (h.mono e0 fun b hb => e b (List.mem_append_left _ hb)) (t.mono e0 fun b hb => e b (List.mem_append_right _ hb))
theorem Own.mono (e0 : Same H0 H0') {p : List Addr} {v : V} {d : D} (e : KeepO p H H') (h : Own K H0 H p v d) : Own K H0' H' p v d := by
  cases h with
  | one r => exact .one (r.mono e0 e)
  | oobj h r => exact .oobj (e _ List.mem_cons_self _ h) (r.mono e0 fun b hb => e b (List.mem_cons_of_mem _ hb))
theorem keepO {p : List Addr} (e : Same H H') : KeepO p H H' := fun a _ o h => e a o h
theorem Own.to {p : List Addr} {v : V} {d : D} (h : Own K H0 H p v d) (e0 : Same H0 H0') (e : Same H H') : Own K H0' H' p v d := h.mono e0 (keepO e)
theorem RepLL.there : ∀ {as : List Addr} {dss : List (List D)}, RepLL K H0 H as dss → ∀ a ∈ as, ∃ o, H a = some o
  | _, _, .cons h r t, b, hb => by
    rcases List.mem_cons.mp hb with e | hb
    · rw [e]
      exact ⟨_, h⟩
    · exact t.there b hb
theorem Own1.there {p : List Addr} {v : V} {d : D} (h : Own1 K H0 H p v d) : ∀ a ∈ p, ∃ o, H a = some o := fun b hb => by
  cases h with
  | leaf r => cases hb
  | olst h r =>
    rcases List.mem_cons.mp hb with e | hb
    · rw [e]
      exact ⟨_, h⟩
    · cases hb
  | oll h r =>
    rcases List.mem_cons.mp hb with e | hb
    · rw [e]
      exact ⟨_, h⟩
    · exact r.there b hb
theorem OwnF.there : ∀ {p : List Addr} {fs : List (Str × V)} {gs : List (Str × D)}, OwnF K H0 H p fs gs → ∀ a ∈ p, ∃ o, H a = some o
  | _, _, _, .cons h t, b, hb => by
    rcases List.mem_append.mp hb with hb | hb
    · exact h.there b hb
    · exact t.there b hb
theorem Own.there {p : List Addr} {v : V} {d : D} (h : Own K H0 H p v d) : ∀ a ∈ p, ∃ o, H a = some o := fun b hb => by
  cases h with
  | one r => exact r.there b hb
  | oobj h r =>
    rcases List.mem_cons.mp hb with e | hb
    · rw [e]
      exact ⟨_, h⟩
    · exact r.there b hb
end

/-! ### making what is held plain -/
def frz1 : D → D
  | .olst ds => .lst ds
  | .oll dss => .lst (dss.map .lst)
  | d => d
def frz : D → D
  | .oobj C gs => .obj C (gs.map fun g => (g.1, frz1 g.2))
  | .mv d => frz1 (match d with | .oobj C gs => .obj C (gs.map fun g => (g.1, frz1 g.2)) | d => d)
  | d => frz1 d
/-- H0 and what stands at p -/
def more (H0 H : Hp) (p : List Addr) : Hp := fun a => if a ∈ p then H a else H0 a
section
variable {K : PySem.W.Frag} {H0 H : Hp}
theorem more_in {p : List Addr} {a : Addr} (h : a ∈ p) : more H0 H p a = H a := if_pos h
theorem more_out {p : List Addr} {a : Addr} (h : a ∉ p) : more H0 H p a = H0 a := if_neg h
theorem more_same {p : List Addr} (e : Same H0 H) : Same H0 (more H0 H p) := fun a o h => by
  by_cases c : a ∈ p
  · rw [more_in c]
    exact e a o h
  · rw [more_out c]
    exact h
theorem more_sub {p : List Addr} (e : Same H0 H) : Same (more H0 H p) H := fun a o h => by
  by_cases c : a ∈ p
  · rw [more_in c] at h
    exact h
  · rw [more_out c] at h
    exact e a o h
theorem more_new {p : List Addr} {a : Addr} {o : HO} (h : more H0 H p a = some o) (n : H0 a = none) : a ∈ p := by
  by_cases c : a ∈ p
  · exact c
  · rw [more_out c, n] at h
    cases h
theorem RepLL.frz (e : Same H0 H) {G : Hp} (eG : Same H0 G) : ∀ {as : List Addr} {dss : List (List D)}, (∀ a ∈ as, ∀ o, H a = some o → G a = some o) → RepLL K H0 H as dss → RepL K G (as.map V.ref) (dss.map D.lst)
  | _, _, _, .nil => .nil
  | _, _, k, .cons h r t => .cons (.lst (k _ List.mem_cons_self _ h) (r.to eG)) (t.frz e eG fun b hb => k b (List.mem_cons_of_mem _ hb))
theorem Own1.frz (e : Same H0 H) {G : Hp} (eG : Same H0 G) {p : List Addr} {v : V} {d : D} (k : ∀ a ∈ p, ∀ o, H a = some o → G a = some o) (h : Own1 K H0 H p v d) : Rep K G v (frz1 d) := by
  cases h with
  | leaf r =>
    have q := r.to eG
    cases q <;> first | exact .non | exact .bl _ | exact .int _ | exact .str _ | exact .lst ‹_› ‹_› | exact .tup ‹_› ‹_› | exact .obj ‹_› ‹_› | exact .dct ‹_› | exact .scr ‹_›
  | olst h r => exact .lst (k _ List.mem_cons_self _ h) (r.to eG)
  | oll h r => exact .lst (k _ List.mem_cons_self _ h) (r.frz e eG fun b hb => k b (List.mem_cons_of_mem _ hb))
theorem OwnF.frz (e : Same H0 H) {G : Hp} (eG : Same H0 G) : ∀ {p : List Addr} {fs : List (Str × V)} {gs : List (Str × D)}, (∀ a ∈ p, ∀ o, H a = some o → G a = some o) → OwnF K H0 H p fs gs → RepF K G fs (gs.map fun g => (g.1, frz1 g.2))
  | _, _, _, _, .nil => .nil
  | _, _, _, k, .cons h t => .cons (h.frz e eG fun b hb => k b (List.mem_append_left _ hb)) (t.frz e eG fun b hb => k b (List.mem_append_right _ hb))
theorem Rep.frz_eq {v : V} {d : D} (h : Rep K H v d) : J.frz d = d := by cases h <;> rfl
theorem Own.frz (e : Same H0 H) {G : Hp} (eG : Same H0 G) {p : List Addr} {v : V} {d : D} (k : ∀ a ∈ p, ∀ o, H a = some o → G a = some o) (h : Own K H0 H p v d) : Rep K G v (J.frz d) := by
  cases h with
  | one r =>
    have q := r.frz e eG k
    cases r with
    | leaf r => rw [r.frz_eq]; exact r.to eG
    | olst _ _ => exact q
    | oll _ _ => exact q
  | oobj h r => exact .obj (k _ List.mem_cons_self _ h) (r.frz e eG fun b hb => k b (List.mem_cons_of_mem _ hb))
theorem Own.frz_mv (e : Same H0 H) {G : Hp} (eG : Same H0 G) {p : List Addr} {v : V} {d : D} (k : ∀ a ∈ p, ∀ o, H a = some o → G a = some o) (h : Own K H0 H p v d) : Rep K G v (J.frz (.mv d)) := by
  cases h with
  | one r =>
    have q := r.frz e eG k
    cases r with
    | leaf r =>
      have q2 := r.to eG
      cases q2 <;> first | exact .non | exact .bl _ | exact .int _ | exact .str _ | exact .lst ‹_› ‹_› | exact .tup ‹_› ‹_› | exact .obj ‹_› ‹_› | exact .dct ‹_› | exact .scr ‹_›
    | olst _ _ => exact q
    | oll _ _ => exact q
  | oobj h r => exact .obj (k _ List.mem_cons_self _ h) (r.frz e eG fun b hb => k b (List.mem_cons_of_mem _ hb))
end

/-! ### steps of the heap -/
/-- from the known H0 in H1 to the known G0 in G: what is new in G0 was not in H1 -/
structure Step (H0 H1 G0 G : Hp) : Prop where
  e1 : Same H1 G
  e0 : Same H0 G0
  e2 : Same G0 G
  fr : ∀ a o, G0 a = some o → H0 a = none → H1 a = none
section
variable {H0 H1 G0 G I0 I : Hp}
theorem Step.refl (e : Same H0 H1) : Step H0 H1 H0 H1 := ⟨Same.refl _, Same.refl _, e, fun a o h n => by rw [n] at h; cases h⟩
theorem Step.trans (a : Step H0 H1 G0 G) (b : Step G0 G I0 I) : Step H0 H1 I0 I :=
  ⟨a.e1.trans b.e1, a.e0.trans b.e0, b.e2, fun x o h n => by
    cases q : G0 x with
    | some u => exact a.fr x u q n
    | none => exact a.e1.free (b.fr x o h q)⟩
theorem same_new {H : Hp} {p : Addr} {o : HO} (h : H p = none) : Same H (upd H p o) := fun a u e => by
  rw [upd_ne (ne_of_none e h)]
  exact e
theorem same_upd2 {H G : Hp} {p : Addr} {o : HO} (e : Same H G) : Same (upd H p o) (upd G p o) := fun a u h => by
  by_cases c : a = p
  · subst c
    rw [upd_same] at h ⊢
    exact h
  · rw [upd_ne c] at h ⊢
    exact e a u h
/-- a new object that is known from now on -/
theorem Step.new {p : Addr} {o : HO} (e : Same H0 H1) (h : H1 p = none) : Step H0 H1 (upd H0 p o) (upd H1 p o) :=
  ⟨same_new h, same_new (e.free h), same_upd2 e, fun a u q n => by
    by_cases c : a = p
    · rw [c]
      exact h
    · rw [upd_ne c, n] at q
      cases q⟩
/-- a new object that is not known -/
theorem Step.newO {p : Addr} {o : HO} (e : Same H0 H1) (h : H1 p = none) : Step H0 H1 H0 (upd H1 p o) :=
  ⟨same_new h, Same.refl _, e.trans (same_new h), fun a u q n => by rw [n] at q; cases q⟩
theorem Step.grow {G' : Hp} (a : Step H0 H1 G0 G) (e : Same G G') : Step H0 H1 G0 G' := ⟨a.e1.trans e, a.e0, a.e2.trans e, a.fr⟩
end

/-! ### what an expression gives -/
def Fresh (H0 H1 : Hp) (p : List Addr) : Prop := p.Nodup ∧ ∀ a ∈ p, H0 a = none ∧ H1 a = none
def Res (K : PySem.W.Frag) (H1 G0 G : Hp) (v : V) : D → Prop
  | .mv d => ∃ p, Own K G0 G p v d ∧ Fresh G0 H1 p
  | d => ∃ p, Own K G0 G p v d
/-- a slot: nothing known; a value -/
inductive DV where
  | no | tr (d : D)
def DV.see : DV → Option D
  | .no => none
  | .tr d => some d
abbrev DE : Type := List DV → (D → Prop) → Prop
abbrev DT : Type := List DV → (Bool → Prop) → Prop
abbrev DA : Type := List DV → (List D → Prop) → Prop
/-- what an expression reads of the slots -/
structure EnvE (K : PySem.W.Frag) (H0 H : Hp) (δ : List DV) (σ : L2.St) : Prop where
  at_ : ∀ (i : Nat) (d : D), (δ[i]?).bind DV.see = some d → ∃ v p, σ[i]? = some (some v) ∧ Own K H0 H p v d
  len : δ.length = σ.length
def Kont (K : PySem.W.Frag) (H0 H1 : Hp) (P : D → Prop) (Q : VK) : Prop := ∀ v d G0 G, P d → Step H0 H1 G0 G → Res K H1 G0 G v d → Q v G
def KontT (H1 : Hp) (P : Bool → Prop) (Q : Bool → Hp → Prop) : Prop := ∀ b G, P b → Same H1 G → Q b G
abbrev AL (K : PySem.W.Frag) (G0 G : Hp) : List V → List D → Prop := Paired fun v d => ∃ p, Own K G0 G p v d
def KontA (K : PySem.W.Frag) (H0 H1 : Hp) (P : List D → Prop) (Q : List V → Hp → Prop) : Prop := ∀ vs ds G0 G, P ds → Step H0 H1 G0 G → AL K G0 G vs ds → Q vs G
def SndE (K : PySem.W.Frag) (te : TE) (T : DE) : Prop := ∀ δ P, T δ P → ∀ H0 H1 σ Q, Same H0 H1 → EnvE K H0 H1 δ σ → Kont K H0 H1 P Q → te σ H1 Q
def SndT (K : PySem.W.Frag) (tt : TT) (T : DT) : Prop := ∀ δ P, T δ P → ∀ H0 H1 σ Q, Same H0 H1 → EnvE K H0 H1 δ σ → KontT H1 P Q → tt σ H1 Q
def SndA (K : PySem.W.Frag) (ta : TA) (T : DA) : Prop := ∀ δ P, T δ P → ∀ H0 H1 σ Q, Same H0 H1 → EnvE K H0 H1 δ σ → KontA K H0 H1 P Q → ta σ H1 Q
structure PEd (X : Cx) (e : Expr) (te : TE) (T : DE) : Prop where
  p : PE X e te
  s : SndE X.K te T
structure PTd (X : Cx) (e : Expr) (tt : TT) (T : DT) : Prop where
  p : PT X e tt
  s : SndT X.K tt T
structure PAd (X : Cx) (es : List Expr) (ta : TA) (T : DA) : Prop where
  p : PA X es ta
  s : SndA X.K ta T

section
variable {K : PySem.W.Frag} {H0 H1 G0 G : Hp} {δ : List DV} {σ : L2.St}
theorem EnvE.to (h : EnvE K H0 H1 δ σ) (e0 : Same H0 G0) (e : Same H1 G) : EnvE K G0 G δ σ := ⟨fun i d q => by
  obtain ⟨v, p, h1, h2⟩ := h.at_ i d q
  exact ⟨v, p, h1, h2.to e0 e⟩, h.len⟩
theorem Res.plain {H1 : Hp} {v : V} {d : D} {p : List Addr} (h : Own K G0 G p v d) : Res K H1 G0 G v d := by
  cases h with
  | one r =>
    cases r with
    | leaf r => cases r <;> exact ⟨_, .one (.leaf (by first | exact .non | exact .bl _ | exact .int _ | exact .str _ | exact .lst ‹_› ‹_› | exact .tup ‹_› ‹_› | exact .obj ‹_› ‹_› | exact .dct ‹_› | exact .scr ‹_›))⟩
    | olst a b => exact ⟨_, .one (.olst a b)⟩
    | oll a b => exact ⟨_, .one (.oll a b)⟩
  | oobj a b => exact ⟨_, .oobj a b⟩
theorem Res.rep {H1 : Hp} {v : V} {d : D} (h : Rep K G0 v d) : Res K H1 G0 G v d := Res.plain (.one (.leaf h))
theorem AL.to : ∀ {vs : List V} {ds : List D} {I0 I : Hp}, AL K G0 G vs ds → Same G0 I0 → Same G I → AL K I0 I vs ds
  | _, _, _, _, .nil, _, _ => .nil
  | _, _, _, _, .cons ⟨p, h⟩ t, e0, e => .cons ⟨p, h.to e0 e⟩ (AL.to t e0 e)
/-- a result stands when more is done -/
theorem Res.to {H1 I0 I : Hp} {v : V} {d : D} (h : Res K H1 G0 G v d) (s : Step G0 G I0 I) : Res K H1 I0 I v d := by
  cases d with
  | mv d =>
    obtain ⟨p, h, n, f⟩ := h
    refine ⟨p, h.to s.e0 s.e1, n, fun a ha => ⟨?_, (f a ha).2⟩⟩
    cases q : I0 a with
    | none => rfl
    | some o =>
      obtain ⟨u, hu⟩ := h.there a ha
      have z := s.fr a o q (f a ha).1
      rw [hu] at z
      cases z
  | _ =>
    obtain ⟨p, h⟩ := h
    exact ⟨p, h.to s.e0 s.e1⟩
theorem Res.back {H1 H2 : Hp} {v : V} {d : D} (h : Res K H2 G0 G v d) (e : Same H1 H2) : Res K H1 G0 G v d := by
  cases d with
  | mv d =>
    obtain ⟨p, h, n, f⟩ := h
    exact ⟨p, h, n, fun a ha => ⟨(f a ha).1, e.free (f a ha).2⟩⟩
  | _ => exact h
theorem Kont.after {I0 I : Hp} {P : D → Prop} {Q : VK} (k : Kont K H0 H1 P Q) (s : Step H0 H1 I0 I) : Kont K I0 I P Q := fun v d G0 G hp t r => k v d G0 G hp (s.trans t) (r.back s.e1)
end

/-! ### statements -/
structure EndsD where
  nx : List DV → Prop
  rt : D → Prop
  bk : List DV → Prop := fun _ => False
  ct : List DV → Prop := fun _ => False
abbrev DS : Type := EndsD → List DV → Prop
/-- what is held: f tells the places of each slot -/
structure Holds (K : PySem.W.Frag) (B H0 : Hp) (δ : List DV) (σ : L2.St) (H : Hp) (f : Nat → List Addr) : Prop where
  is : ∀ (i : Nat) (d : D), δ[i]? = some (DV.tr d) → ∃ v, σ[i]? = some (some v) ∧ Own K H0 H (f i) v d
  fresh : ∀ i, Fresh H0 B (f i)
  apart : ∀ i j, i ≠ j → ∀ a ∈ f i, a ∉ f j
  there : ∀ i, ∀ a ∈ f i, ∃ o, H a = some o
/-- the slots, from the entry's He in B -/
structure Ok (K : PySem.W.Frag) (B He H0 : Hp) (δ : List DV) (σ : L2.St) (H : Hp) : Prop where
  st : Step He B H0 H
  own : ∃ f : Nat → List Addr, Holds K B H0 δ σ H f
  len : δ.length = σ.length
structure Lift (K : PySem.W.Frag) (B He Hb : Hp) (E : EndsD) (D : Ends) : Prop where
  nx : ∀ δ H0 σ H, E.nx δ → Ok K B He H0 δ σ H → Same Hb H0 → D.nx σ H
  rt : ∀ d v H0 H, E.rt d → Step He B H0 H → Res K B H0 H v d → D.rt v H
  bk : ∀ δ H0 σ H, E.bk δ → Ok K B He H0 δ σ H → Same Hb H0 → D.bk σ H
  ct : ∀ δ H0 σ H, E.ct δ → Ok K B He H0 δ σ H → Same Hb H0 → D.ct σ H
theorem Lift.mono {K : PySem.W.Frag} {B He Hb Hc : Hp} {E : EndsD} {D : Ends} (L : Lift K B He Hb E D) (e : Same Hb Hc) : Lift K B He Hc E D :=
  ⟨fun δ H0 σ H h ok s => L.nx δ H0 σ H h ok (e.trans s), L.rt, fun δ H0 σ H h ok s => L.bk δ H0 σ H h ok (e.trans s), fun δ H0 σ H h ok s => L.ct δ H0 σ H h ok (e.trans s)⟩
structure PSd (X : Cx) (B He : Hp) (st : Stmt) (T : DS) : Prop where
  ex : ∃ t, PS X st t ∧ ∀ E δ, T E δ → ∀ D H0 σ H, Lift X.K B He H0 E D → Ok X.K B He H0 δ σ H → t D σ H
structure PSsd (X : Cx) (B He : Hp) (sts : List Stmt) (T : DS) : Prop where
  ex : ∃ t, PSs X sts t ∧ ∀ E δ, T E δ → ∀ D H0 σ H, Lift X.K B He H0 E D → Ok X.K B He H0 δ σ H → t D σ H

section
variable {K : PySem.W.Frag} {B He H0 G0 H G : Hp} {δ : List DV} {σ : L2.St}
theorem Ok.env (h : Ok K B He H0 δ σ H) : EnvE K H0 H δ σ := ⟨fun i d q => by
  obtain ⟨f, h1, _, _⟩ := h.own
  cases e : δ[i]? with
  | none => rw [e] at q; cases q
  | some x =>
    rw [e] at q
    cases x with
    | no => cases q
    | tr d' =>
      have e2 : d' = d := Option.some.inj q
      subst e2
      obtain ⟨v, a, b⟩ := h1 i d' e
      exact ⟨v, _, a, b⟩, h.len⟩
/-- more is known, more stands -/
theorem Ok.to (h : Ok K B He H0 δ σ H) (s : Step H0 H G0 G) : Ok K B He G0 δ σ G := by
  obtain ⟨f, h1⟩ := h.own
  refine ⟨h.st.trans s, ⟨f, fun i d q => ?_, fun i => ⟨(h1.fresh i).1, fun a ha => ⟨?_, ((h1.fresh i).2 a ha).2⟩⟩, h1.apart, fun i a ha => ?_⟩, h.len⟩
  · obtain ⟨v, a, b⟩ := h1.is i d q
    exact ⟨v, a, b.to s.e0 s.e1⟩
  · cases q : G0 a with
    | none => rfl
    | some o =>
      obtain ⟨u, hu⟩ := h1.there i a ha
      have z := s.fr a o q ((h1.fresh i).2 a ha).1
      rw [hu] at z
      cases z
  · obtain ⟨u, hu⟩ := h1.there i a ha
    exact ⟨u, s.e1 a u hu⟩
def setF (f : Nat → List Addr) (i : Nat) (p : List Addr) : Nat → List Addr := fun j => if j = i then p else f j
theorem setF_same {f : Nat → List Addr} {i : Nat} {p : List Addr} : setF f i p i = p := if_pos rfl
theorem setF_ne {f : Nat → List Addr} {i j : Nat} {p : List Addr} (h : j ≠ i) : setF f i p j = f j := if_neg h
/-- a value is stored, with all it holds -/
theorem Ok.putG {i : Nat} {v : V} {d : D} {p : List Addr} {f : Nat → List Addr} (h : Ok K B He H0 δ σ H) (hf : Holds K B H0 δ σ H f) (r : Own K H0 H p v d) (fr : Fresh H0 B p) (ap : ∀ j, j ≠ i → ∀ a ∈ f j, a ∉ p) :
    Ok K B He H0 (δ.set i (.tr d)) (σ.set i (some v)) H := by
  have hl := h.len
  refine ⟨h.st, ⟨setF f i p, fun j d' q => ?_, fun j => ?_, fun j k hjk a ha hb => ?_, fun j a ha => ?_⟩, by rw [List.length_set, List.length_set, hl]⟩
  · by_cases c : j = i
    · subst c
      have lt : j < δ.length := by
        have := (List.getElem?_eq_some_iff.mp q).1
        rwa [List.length_set] at this
      rw [List.getElem?_set_self lt] at q
      cases q
      refine ⟨v, List.getElem?_set_self (by rw [← hl]; exact lt), ?_⟩
      rw [setF_same]
      exact r
    · rw [List.getElem?_set_ne (Ne.symm c)] at q
      obtain ⟨u, a, b⟩ := hf.is j d' q
      refine ⟨u, by rw [List.getElem?_set_ne (Ne.symm c)]; exact a, ?_⟩
      rw [setF_ne c]
      exact b
  · by_cases c : j = i
    · subst c
      rw [setF_same]
      exact fr
    · rw [setF_ne c]
      exact hf.fresh j
  · by_cases c : j = i
    · subst c
      rw [setF_same] at ha
      rw [setF_ne (Ne.symm hjk)] at hb
      exact ap k (Ne.symm hjk) a hb ha
    · rw [setF_ne c] at ha
      by_cases c2 : k = i
      · subst c2
        rw [setF_same] at hb
        exact ap j c a ha hb
      · rw [setF_ne c2] at hb
        exact hf.apart j k hjk a ha hb
  · by_cases c : j = i
    · subst c
      rw [setF_same] at ha
      exact r.there a ha
    · rw [setF_ne c] at ha
      exact hf.there j a ha
/-- a plain value is stored -/
theorem Ok.put {i : Nat} {v : V} {d : D} (h : Ok K B He H0 δ σ H) (r : Rep K H0 v d) : Ok K B He H0 (δ.set i (.tr d)) (σ.set i (some v)) H := by
  obtain ⟨f, hf⟩ := h.own
  exact h.putG hf (.one (.leaf r)) ⟨List.nodup_nil, fun a ha => by cases ha⟩ fun j _ a _ hb => by cases hb
/-- a new value is stored -/
theorem Ok.putM {i : Nat} {v : V} {d : D} {p : List Addr} (h : Ok K B He H0 δ σ H) (s : Step H0 H G0 G) (r : Own K G0 G p v d) (fr : Fresh G0 H p) : Ok K B He G0 (δ.set i (.tr d)) (σ.set i (some v)) G := by
  obtain ⟨f, hf⟩ := h.own
  have q := h.to s
  have e : ∀ j, ∀ a ∈ f j, a ∉ p := fun j a ha hp => by
    obtain ⟨o, ho⟩ := hf.there j a ha
    rw [(fr.2 a hp).2] at ho
    cases ho
  refine q.putG (f := f) ⟨fun i d z => ?_, fun i => ⟨(hf.fresh i).1, fun a ha => ⟨?_, ((hf.fresh i).2 a ha).2⟩⟩, hf.apart, fun i a ha => ?_⟩ r ⟨fr.1, fun a ha => ⟨(fr.2 a ha).1, h.st.e1.free (fr.2 a ha).2⟩⟩ fun j _ a ha => e j a ha
  · obtain ⟨v, a, b⟩ := hf.is i d z
    exact ⟨v, a, b.to s.e0 s.e1⟩
  · cases q : G0 a with
    | none => rfl
    | some o =>
      obtain ⟨u, hu⟩ := hf.there i a ha
      have z := s.fr a o q ((hf.fresh i).2 a ha).1
      rw [hu] at z
      cases z
  · obtain ⟨u, hu⟩ := hf.there i a ha
    exact ⟨u, s.e1 a u hu⟩
end
end J
/-! J3: expressions: names, constants, operators, comparisons -/
namespace J
open PySem L2

/-- what a value is, whoever holds it -/
def D.un : D → D
  | .mv d => d
  | d => d
/-- the items of a list -/
def D.items : D → Option (List D)
  | .lst ds => some ds
  | .olst ds => some ds
  | .scr ns => some (ns.map .int)
  | .oll dss => none
  | _ => none
/-- of a list that the program made -/
def D.list : D → Option (List D)
  | .lst ds => some ds
  | .olst ds => some ds
  | _ => none
section
variable {K : PySem.W.Frag} {H0 H1 G0 G : Hp} {δ : List DV} {σ : L2.St} {v w : V} {p q : List Addr}
theorem Res.un {d : D} (h : Res K H1 G0 G v d) : ∃ p, Own K G0 G p v d.un := by
  cases d with
  | mv d =>
    obtain ⟨p, h, _⟩ := h
    exact ⟨p, h⟩
  | _ => exact h
theorem Own.rep {d : D} (h : Own K H0 H1 p v d) (n1 : ∀ ds, d ≠ .olst ds := by intro _ z; cases z) (n2 : ∀ ds, d ≠ .oll ds := by intro _ z; cases z) (n3 : ∀ C gs, d ≠ .oobj C gs := by intro _ _ z; cases z) : Rep K H0 v d := by
  cases h with
  | one r =>
    cases r with
    | leaf r => exact r
    | olst _ _ => exact absurd rfl (n1 _)
    | oll _ _ => exact absurd rfl (n2 _)
  | oobj _ _ => exact absurd rfl (n3 _ _)
theorem Own.int {i : Int} (h : Own K H0 H1 p v (.int i)) : v = .int i := by cases h.rep; rfl
theorem Own.bl {i : Bool} (h : Own K H0 H1 p v (.bl i)) : v = .bl i := by cases h.rep; rfl
theorem Own.non (h : Own K H0 H1 p v .non) : v = .non := by cases h.rep; rfl
theorem Own.str {x : Str} (h : Own K H0 H1 p v (.str x)) : v = .str x := by cases h.rep; rfl
theorem Own.list {d : D} {ds : List D} (h : Own K H0 H1 p v d) (e : Same H0 H1) (q : d.list = some ds) : ∃ a vs, v = .ref a ∧ H1 a = some (.lst vs) ∧ RepL K H0 vs ds := by
  cases d with
  | lst es =>
    cases q
    cases h.rep with
    | lst h1 h2 => exact ⟨_, _, rfl, e _ _ h1, h2⟩
  | olst es =>
    cases q
    cases h with
    | one r =>
      cases r with
      | leaf r => cases r
      | olst h1 h2 => exact ⟨_, _, rfl, h1, h2⟩
  | _ => cases q
theorem Own.items {d : D} {ds : List D} (h : Own K H0 H1 p v d) (e : Same H0 H1) (q : d.items = some ds) : ∃ a vs, v = .ref a ∧ SqL K H1 a vs ∧ RepL K H0 vs ds := by
  cases d with
  | lst es =>
    obtain ⟨a, vs, h1, h2, h3⟩ := h.list e (ds := es) rfl
    cases q
    exact ⟨a, vs, h1, .of h2, h3⟩
  | olst es =>
    obtain ⟨a, vs, h1, h2, h3⟩ := h.list e (ds := es) rfl
    cases q
    exact ⟨a, vs, h1, .of h2, h3⟩
  | scr ns =>
    cases q
    cases h.rep with
    | scr h1 => exact ⟨_, _, rfl, e.seq h1, RepL.ofInts ns⟩
  | _ => cases q
theorem Own.tup {ds : List D} (h : Own K H0 H1 p v (.tup ds)) (e : Same H0 H1) : ∃ a vs, v = .ref a ∧ H1 a = some (.tup vs) ∧ RepL K H0 vs ds := by
  cases h.rep with
  | tup h1 h2 => exact ⟨_, _, rfl, e _ _ h1, h2⟩
theorem Own.of {d : D} (r : Rep K H0 v d) : Own K H0 H1 [] v d := .one (.leaf r)
/-- a plain answer that needs no new object -/
theorem Kont.val {P : D → Prop} {Q : VK} {d : D} (k : Kont K H0 H1 P Q) (e : Same H0 H1) (h : P d) (r : Rep K H0 v d) : Q v H1 := k v d H0 H1 h (Step.refl e) (Res.rep r)
/-- a new list -/
theorem Kont.lst {P : D → Prop} {Q : VK} {ds : List D} {vs : List V} (k : Kont K H0 H1 P Q) (e : Same H0 H1) (h : P (.mv (.olst ds))) (r : RepL K H0 vs ds) : ∀ a, H1 a = none → Q (.ref a) (upd H1 a (.lst vs)) := fun a ha =>
  k _ (.mv (.olst ds)) H0 _ h (Step.newO e ha) ⟨[a], .one (.olst upd_same r), List.nodup_cons.mpr ⟨List.not_mem_nil, List.nodup_nil⟩, fun b hb => by
    rcases List.mem_cons.mp hb with z | z
    · rw [z]
      exact ⟨e.free ha, ha⟩
    · cases z⟩
/-- a new tuple -/
theorem Kont.tup {P : D → Prop} {Q : VK} {ds : List D} {vs : List V} (k : Kont K H0 H1 P Q) (e : Same H0 H1) (h : P (.tup ds)) (r : RepL K H0 vs ds) : ∀ a, H1 a = none → Q (.ref a) (upd H1 a (.tup vs)) := fun a ha =>
  k _ (.tup ds) _ _ h (Step.new e ha) (Res.rep (.tup upd_same (r.to (same_new (e.free ha)))))
end

/-! ### names, constants -/
def dVar (i : Nat) : DE := fun δ P => match (δ[i]?).bind DV.see with
  | some d => P d
  | none => False
def dC (d : D) : DE := fun _ P => P d
section
variable {X : Cx} {e a b : Expr} {i : Nat} {d : D} {v : V}
theorem pd_var (h : PE X e (tVar i)) : PEd X e (tVar i) (dVar i) := by
  refine ⟨h, fun δ P h H0 H1 σ Q e env k => ?_⟩
  unfold dVar at h
  cases q : (δ[i]?).bind DV.see with
  | none => rw [q] at h; exact h.elim
  | some d =>
    rw [q] at h
    obtain ⟨v, p, h1, h2⟩ := env.at_ i d q
    exact ⟨v, h1, k v d H0 H1 h (Step.refl e) (Res.plain h2)⟩
theorem pd_c (h : PE X e (tC v)) (r : ∀ H, Rep X.K H v d) : PEd X e (tC v) (dC d) := ⟨h, fun δ P h H0 H1 σ Q e env k => k.val e h (r H0)⟩
theorem pd_int {i j pos} : PEd X (.Constant (.int i) j pos) (tC (.int i)) (dC (.int i)) := pd_c pe_int fun _ => .int i
theorem pd_bl {b j pos} : PEd X (.Constant (.bool b) j pos) (tC (.bl b)) (dC (.bl b)) := pd_c pe_bl fun _ => .bl b
theorem pd_non {j pos} : PEd X (.Constant .none j pos) (tC .non) (dC .non) := pd_c pe_non fun _ => .non
theorem pd_str {x j pos} : PEd X (.Constant (.str x) j pos) (tC (.str x)) (dC (.str x)) := pd_c pe_str fun _ => .str x

/-! ### made plain -/
/-- a value handed over is kept as it is: from now on it doesn't change -/
def dFz (ta : DE) : DE := fun δ P => ta δ fun x => P (match x with | .mv d => frz (.mv d) | d => d)
theorem Res.fz {K : PySem.W.Frag} {H0 H1 G0 G : Hp} {v : V} {d : D} (s : Step H0 H1 G0 G) (h : Res K H1 G0 G v (.mv d)) : ∃ I0, Step H0 H1 I0 G ∧ Rep K I0 v (frz (.mv d)) := by
  obtain ⟨p, h, n, f⟩ := h
  refine ⟨more G0 G p, ⟨s.e1, s.e0.trans (more_same s.e2), more_sub s.e2, fun a o q n => ?_⟩, h.frz_mv s.e2 (more_same s.e2) fun a ha o ho => by rw [more_in ha]; exact ho⟩
  by_cases c : a ∈ p
  · exact (f a c).2
  · rw [more_out c] at q
    exact s.fr a o q n
theorem pd_fz {ta : DE} (h : PEd X e ua ta) : PEd X e ua (dFz ta) := by
  obtain ⟨h1, h2⟩ := h
  refine ⟨h1, fun δ P hT H0 H1 σ Q e env k => h2 δ _ hT H0 H1 σ Q e env fun v d G0 G hp s r => ?_⟩
  cases d with
  | mv d =>
    obtain ⟨I0, s2, r2⟩ := Res.fz s r
    exact k v _ I0 G hp s2 (Res.rep r2)
  | _ => exact k v _ G0 G hp s r

/-! ### two operands -/
def OpD (K : PySem.W.Frag) (r : R2) (g : D → D → (D → Prop) → Prop) : Prop :=
  ∀ x y P, g x y P → ∀ v w H0 H1 p q Q, Same H0 H1 → Own K H0 H1 p v x → Own K H0 H1 q w y → Kont K H0 H1 P Q → r v w H1 Q
def dOp (g : D → D → (D → Prop) → Prop) (ta tb : DE) : DE := fun δ P => ta δ fun x => tb δ fun y => g x.un y.un P
theorem pd_op {e : Expr} {r : R2} {g : D → D → (D → Prop) → Prop} {ta tb : DE} (hp : ∀ ta tb, PE X a ta → PE X b tb → PE X e (tOp r ta tb)) (hg : OpD X.K r g) (ha : PEd X a ua ta) (hb : PEd X b ub tb) : PEd X e (tOp r ua ub) (dOp g ta tb) := by
  obtain ⟨a1, a2⟩ := ha
  obtain ⟨b1, b2⟩ := hb
  refine ⟨hp _ _ a1 b1, fun δ P hT H0 H1 σ Q e env k => ?_⟩
  refine a2 δ _ hT H0 H1 σ _ e env fun v x G0 G hx s r1 => ?_
  refine b2 δ _ hx G0 G σ _ s.e2 (env.to s.e0 s.e1) fun w y I0 I hy s2 r2 => ?_
  obtain ⟨p, o1⟩ := (r1.to s2).un
  obtain ⟨q, o2⟩ := r2.un
  exact hg _ _ _ hy v w I0 I p q Q s2.e2 o1 o2 (k.after (s.trans s2))
theorem pd_bin {op : Operator} {pos : Pos} {r : R2} {g : D → D → (D → Prop) → Prop} {ta tb : DE} (ho : OpR X (binaryOp op) r) (hg : OpD X.K r g) (ha : PEd X a ua ta) (hb : PEd X b ub tb) : PEd X (.BinOp a op b pos) (tOp r ua ub) (dOp g ta tb) :=
  pd_op (fun _ _ h1 h2 => pe_op ho h1 h2) hg ha hb
theorem pd_cmp {op : CmpOp} {pos : Pos} {r : R2} {g : D → D → (D → Prop) → Prop} {ta tb : DE} (ho : OpR X (compareOp op) r) (hg : OpD X.K r g) (ha : PEd X a ua ta) (hb : PEd X b ub tb) (hm : behindInMarks op b = false := by first | exact nobehind _ (by decide) (by decide) | rfl) :
    PEd X (.Compare a [op] [b] pos) (tOp r ua ub) (dOp g ta tb) := pd_op (fun _ _ h1 h2 => pe_cmpR ho h1 h2 hm) hg ha hb
/-- either of two rules -/
theorem OpR.either {f : Value → Value → Sem Value} {r r' : R2} (h : OpR X f r) (h' : OpR X f r') : OpR X f (fun x y H Q => r x y H Q ∨ r' x y H Q) := fun pins s σ H x y v u Q I rx ry hq => by
  rcases hq with hq | hq
  · exact h pins s σ H x y v u Q I rx ry hq
  · exact h' pins s σ H x y v u Q I rx ry hq
end

def gI (C : Int → Int → Prop) (f : Int → Int → D) : D → D → (D → Prop) → Prop := fun x y P => match x, y with
  | .int i, .int j => C i j ∧ P (f i j)
  | _, _ => False
def gI0 (f : Int → Int → D) : D → D → (D → Prop) → Prop := fun x y P => match x, y with
  | .int i, .int j => P (f i j)
  | _, _ => False
section
variable {K : PySem.W.Frag}
theorem gI_inv {C : Int → Int → Prop} {f : Int → Int → D} {x y : D} {P : D → Prop} (h : gI C f x y P) : ∃ i j, x = .int i ∧ y = .int j ∧ C i j ∧ P (f i j) := by
  cases x <;> first | exact h.elim | skip
  cases y <;> first | exact h.elim | skip
  exact ⟨_, _, rfl, rfl, h.1, h.2⟩
theorem gI0_inv {f : Int → Int → D} {x y : D} {P : D → Prop} (h : gI0 f x y P) : ∃ i j, x = .int i ∧ y = .int j ∧ P (f i j) := by
  cases x <;> first | exact h.elim | skip
  cases y <;> first | exact h.elim | skip
  exact ⟨_, _, rfl, rfl, h⟩
/-- ints alone -/
theorem od_I {C : Int → Int → Prop} {f : Int → Int → V} {g : Int → Int → D} (hr : ∀ i j H, Rep K H (f i j) (g i j)) : OpD K (rI C f) (gI C g) := fun x y P h v w H0 H1 p q Q e o1 o2 k => by
  obtain ⟨i, j, rfl, rfl, hc, hp⟩ := gI_inv h
  exact ⟨i, j, o1.int, o2.int, hc, k.val e hp (hr i j H0)⟩
theorem od_I0 {f : Int → Int → V} {g : Int → Int → D} (hr : ∀ i j H, Rep K H (f i j) (g i j)) : OpD K (rI0 f) (gI0 g) := fun x y P h v w H0 H1 p q Q e o1 o2 k => by
  obtain ⟨i, j, rfl, rfl, hp⟩ := gI0_inv h
  exact ⟨i, j, o1.int, o2.int, k.val e hp (hr i j H0)⟩
end
theorem sz5 {n : Nat} (h : n ≤ 100000) : n ≤ sizeLine := Nat.le_trans h (by decide)
/-- a + b: ints; lists: a new one -/
def gAdd : D → D → (D → Prop) → Prop := fun x y P => match x, y with
  | .int i, .int j => P (.int (i + j))
  | x, y => match x.list, y.list with
    | some a, some b => a.length + b.length ≤ 100000 ∧ P (.mv (.olst (a ++ b)))
    | _, _ => False
theorem gAdd_inv {x y : D} {P : D → Prop} (h : gAdd x y P) : (∃ i j, x = .int i ∧ y = .int j ∧ P (.int (i + j))) ∨ (∃ a b, x.list = some a ∧ y.list = some b ∧ a.length + b.length ≤ 100000 ∧ P (.mv (.olst (a ++ b)))) := by
  have key : (match x.list, y.list with
    | some a, some b => a.length + b.length ≤ 100000 ∧ P (.mv (.olst (a ++ b)))
    | _, _ => False) → (∃ a b, x.list = some a ∧ y.list = some b ∧ a.length + b.length ≤ 100000 ∧ P (.mv (.olst (a ++ b)))) := fun z => by
    cases e1 : x.list with
    | none => rw [e1] at z; cases z
    | some a =>
      cases e2 : y.list with
      | none => rw [e1, e2] at z; cases z
      | some b =>
        rw [e1, e2] at z
        exact ⟨a, b, rfl, rfl, z.1, z.2⟩
  cases x with
  | int i =>
    cases y with
    | int j => exact .inl ⟨i, j, rfl, rfl, h⟩
    | _ => exact .inr (key h)
  | _ => exact .inr (key h)
section
variable {X : Cx}
theorem pd_add {a b : Expr} {ta tb : DE} {pos : Pos} (ha : PEd X a ua ta) (hb : PEd X b ub tb) : PEd X (.BinOp a .Add b pos) (tOp (fun x y H Q => rI0 (fun i j => .int (i + j)) x y H Q ∨ rCat x y H Q) ua ub) (dOp gAdd ta tb) := by
  refine pd_bin (OpR.either op_add op_cat) (fun x y P h v w H0 H1 p q Q e o1 o2 k => ?_) ha hb
  rcases gAdd_inv h with ⟨i, j, rfl, rfl, hp⟩ | ⟨as, bs, e1, e2, hl, hp⟩
  · exact .inl ⟨i, j, o1.int, o2.int, k.val e hp (.int _)⟩
  · obtain ⟨a1, vs, rfl, h1, r1⟩ := o1.list e e1
    obtain ⟨a2, ws, rfl, h2, r2⟩ := o2.list e e2
    exact .inr ⟨a1, a2, vs, ws, rfl, rfl, h1, h2, sz5 (by rw [r1.len, r2.len]; exact hl), k.lst e hp (r1.app r2)⟩
theorem pd_sub {a b : Expr} {ta tb : DE} {pos : Pos} (ha : PEd X a ua ta) (hb : PEd X b ub tb) : PEd X (.BinOp a .Sub b pos) (tOp (rI0 fun i j => .int (i - j)) ua ub) (dOp (gI0 fun i j => .int (i - j)) ta tb) := pd_bin op_sub (od_I0 fun i j _ => .int _) ha hb
/-- a * b: one of them small; a list, again and again -/
def gMul : D → D → (D → Prop) → Prop := fun x y P => match x, y with
  | .int i, .int j => CMul i j ∧ P (.int (i * j))
  | x, .int k => match x.list with
    | some a => 0 ≤ k ∧ k ≤ 1000 ∧ a.length ≤ 1000 ∧ P (.mv (.olst (List.replicate k.toNat a).flatten))
    | none => False
  | _, _ => False
theorem RepL.rep {K : PySem.W.Frag} {H : Hp} {vs : List V} {ds : List D} (h : RepL K H vs ds) : ∀ n : Nat, RepL K H (List.replicate n vs).flatten (List.replicate n ds).flatten
  | 0 => .nil
  | n + 1 => by
    rw [List.replicate_succ, List.replicate_succ, List.flatten_cons, List.flatten_cons]
    exact h.app (h.rep n)
theorem gMul_inv {x y : D} {P : D → Prop} (h : gMul x y P) : (∃ i j, x = .int i ∧ y = .int j ∧ CMul i j ∧ P (.int (i * j))) ∨ (∃ a k, x.list = some a ∧ y = .int k ∧ 0 ≤ k ∧ k ≤ 1000 ∧ a.length ≤ 1000 ∧ P (.mv (.olst (List.replicate k.toNat a).flatten))) := by
  have key : ∀ k, y = .int k → (match x.list with
    | some a => 0 ≤ k ∧ k ≤ 1000 ∧ a.length ≤ 1000 ∧ P (.mv (.olst (List.replicate k.toNat a).flatten))
    | none => False) → (∃ a k, x.list = some a ∧ y = .int k ∧ 0 ≤ k ∧ k ≤ 1000 ∧ a.length ≤ 1000 ∧ P (.mv (.olst (List.replicate k.toNat a).flatten))) := fun k ey z => by
    cases e1 : x.list with
    | none => rw [e1] at z; cases z
    | some a =>
      rw [e1] at z
      exact ⟨a, k, rfl, ey, z⟩
  cases x with
  | int i =>
    cases y with
    | int j => exact .inl ⟨i, j, rfl, rfl, h.1, h.2⟩
    | _ => exact h.elim
  | _ =>
    cases y with
    | int k => exact .inr (key k rfl h)
    | _ => exact h.elim
theorem pd_mul {a b : Expr} {ta tb : DE} {pos : Pos} (ha : PEd X a ua ta) (hb : PEd X b ub tb) : PEd X (.BinOp a .Mult b pos) (tOp (fun x y H Q => rI CMul (fun i j => .int (i * j)) x y H Q ∨ rRep x y H Q) ua ub) (dOp gMul ta tb) := by
  refine pd_bin (OpR.either op_mul op_rep) (fun x y P h v w H0 H1 p q Q e o1 o2 k => ?_) ha hb
  rcases gMul_inv h with ⟨i, j, rfl, rfl, hc, hp⟩ | ⟨as, n, e1, rfl, h0, h1, hl, hp⟩
  · exact .inl ⟨i, j, o1.int, o2.int, hc, k.val e hp (.int _)⟩
  · obtain ⟨a1, vs, rfl, hv, r1⟩ := o1.list e e1
    refine .inr ⟨a1, n, vs, rfl, o2.int, hv, by omega, by omega, ?_, k.lst e hp (r1.rep n.toNat)⟩
    have hn : n.toNat ≤ 1000 := by omega
    have := Nat.mul_le_mul (show vs.length ≤ 1000 by rw [r1.len]; exact hl) hn
    exact Nat.le_trans this (by decide)
theorem pd_mod {a b : Expr} {ta tb : DE} {pos : Pos} (ha : PEd X a ua ta) (hb : PEd X b ub tb) : PEd X (.BinOp a .Mod b pos) (tOp (rI (fun _ j => j ≠ 0) fun i j => .int (i.fmod j)) ua ub) (dOp (gI (fun _ j => j ≠ 0) fun i j => .int (i.fmod j)) ta tb) := pd_bin op_modN (od_I fun i j _ => .int _) ha hb
theorem pd_fdiv {a b : Expr} {ta tb : DE} {pos : Pos} (ha : PEd X a ua ta) (hb : PEd X b ub tb) : PEd X (.BinOp a .FloorDiv b pos) (tOp (rI CDivN fun i j => .int (i.fdiv j)) ua ub) (dOp (gI CDivN fun i j => .int (i.fdiv j)) ta tb) := pd_bin op_fdivN (od_I fun i j _ => .int _) ha hb
theorem pd_pow {a b : Expr} {ta tb : DE} {pos : Pos} (ha : PEd X a ua ta) (hb : PEd X b ub tb) : PEd X (.BinOp a .Pow b pos) (tOp (rI CPow fun i j => .int (i ^ j.toNat)) ua ub) (dOp (gI CPow fun i j => .int (i ^ j.toNat)) ta tb) := pd_bin op_pow (od_I fun i j _ => .int _) ha hb
abbrev gLt := gI0 fun i j => D.bl (decide (i < j))
abbrev gLe := gI0 fun i j => D.bl (decide (i ≤ j))
abbrev gGt := gI0 fun i j => D.bl (decide (j < i))
abbrev gGe := gI0 fun i j => D.bl (decide (j ≤ i))
end
end J
/-! J4: equality, in, tests, and, or, not, chains -/
namespace J
open PySem L2

/-! ### data as the library compares it -/
mutual
def D.py : D → PyData
  | .non => .none
  | .bl b => .bool b
  | .int i => .int i
  | .str x => .str x
  | .lst ds => .list (pyL ds)
  | .tup ds => .tuple (pyL ds)
  | .olst ds => .list (pyL ds)
  | .oll dss => .list (pyLL dss)
  | .scr ns => .list (ns.map .int)
  | .obj _ _ => .none
  | .dct _ => .none
  | .oobj _ _ => .none
  | .mv _ => .none
def pyL : List D → List PyData
  | [] => []
  | d :: ds => d.py :: pyL ds
def pyLL : List (List D) → List PyData
  | [] => []
  | ds :: dss => .list (pyL ds) :: pyLL dss
end
mutual
def D.isPy : D → Bool
  | .lst ds => isPyL ds
  | .tup ds => isPyL ds
  | .olst ds => isPyL ds
  | .oll dss => isPyLL dss
  | .obj _ _ => false
  | .dct _ => false
  | .oobj _ _ => false
  | .mv _ => false
  | _ => true
def isPyL : List D → Bool
  | [] => true
  | d :: ds => d.isPy && isPyL ds
def isPyLL : List (List D) → Bool
  | [] => true
  | ds :: dss => isPyL ds && isPyLL dss
end
section
variable {K : PySem.W.Frag} {H0 H1 : Hp}
mutual
theorem Rep.dp : ∀ (d : D) (v : V), d.isPy = true → Rep K H0 v d → Dp K H0 v d.py
  | .non, _, _, h => by cases h; exact .non
  | .bl b, _, _, h => by cases h; exact .bl b
  | .int i, _, _, h => by cases h; exact .int i
  | .str x, _, _, h => by cases h; exact .str x
  | .lst ds, _, i, h => by
    cases h with
    | lst h1 h2 => exact .lst (.of h1) (RepL.dp ds _ i h2)
  | .tup ds, _, i, h => by
    cases h with
    | tup h1 h2 => exact .tup (.of h1) (RepL.dp ds _ i h2)
  | .scr ns, _, _, h => by
    cases h with
    | scr h1 => exact .lst h1 (dpInts ns)
  | .obj _ _, _, i, _ => by cases i
  | .dct _, _, i, _ => by cases i
  | .olst _, _, _, h => by cases h
  | .oll _, _, _, h => by cases h
  | .oobj _ _, _, _, h => by cases h
  | .mv _, _, _, h => by cases h
theorem RepL.dp : ∀ (ds : List D) (vs : List V), isPyL ds = true → RepL K H0 vs ds → DpAll K H0 vs (pyL ds)
  | [], _, _, h => by cases h; exact .nil
  | d :: ds, _, i, h => by
    cases h with
    | cons h1 h2 =>
      have q := Bool.and_eq_true_iff.mp (show (d.isPy && isPyL ds) = true from i)
      exact .cons (Rep.dp d _ q.1 h1) (RepL.dp ds _ q.2 h2)
theorem dpInts : ∀ ns : List Int, DpAll K H0 (ns.map V.int) (ns.map PyData.int)
  | [] => .nil
  | n :: ns => .cons (.int n) (dpInts ns)
end
mutual
theorem dp_mono (e : Same H0 H1) : ∀ (d : PyData) (v : V), Dp K H0 v d → Dp K H1 v d
  | .none, _, h => by cases h; exact .non
  | .bool _, _, h => by cases h; exact .bl _
  | .int _, _, h => by cases h; exact .int _
  | .str _, _, h => by cases h; exact .str _
  | .list ds, _, h => by
    cases h with
    | lst h1 h2 => exact .lst (e.seq h1) (dps_mono e ds _ h2)
  | .tuple ds, _, h => by
    cases h with
    | tup h1 h2 =>
      refine .tup ?_ (dps_mono e ds _ h2)
      rcases h1 with (h1 | ⟨o, h1⟩) | h1
      · exact .inl (.inl (e _ _ h1))
      · exact .inl (.inr ⟨o, e _ _ h1⟩)
      · exact .inr h1
  | .dict _, _, h => by cases h
theorem dps_mono (e : Same H0 H1) : ∀ (ds : List PyData) (vs : List V), DpAll K H0 vs ds → DpAll K H1 vs ds
  | [], _, h => by cases h; exact .nil
  | d :: ds, _, h => by
    cases h with
    | cons h1 h2 => exact .cons (dp_mono e d _ h1) (dps_mono e ds _ h2)
end
theorem RepLL.dp (e : Same H0 H1) : ∀ (dss : List (List D)) (as : List Addr), isPyLL dss = true → RepLL K H0 H1 as dss → DpAll K H1 (as.map V.ref) (pyLL dss)
  | [], _, _, h => by cases h; exact .nil
  | ds :: dss, _, i, h => by
    cases h with
    | cons h r t =>
      have q := Bool.and_eq_true_iff.mp (show (isPyL ds && isPyLL dss) = true from i)
      exact .cons (.lst (.of h) (dps_mono e _ _ (RepL.dp _ _ q.1 r))) (RepLL.dp e dss _ q.2 t)
theorem Own.dp {p : List Addr} {v : V} {d : D} (e : Same H0 H1) (i : d.isPy = true) (h : Own K H0 H1 p v d) : Dp K H1 v d.py := by
  cases h with
  | one r =>
    cases r with
    | leaf r => exact dp_mono e _ _ (Rep.dp d v i r)
    | olst h r => exact .lst (.of h) (dps_mono e _ _ (RepL.dp _ _ i r))
    | oll h r => exact .lst (.of h) (RepLL.dp e _ _ i r)
  | oobj _ _ => cases i
end
/-- data that may be compared: how deep -/
def D.cmpOk (d : D) : Bool := d.isPy && SeqAt.shaped d.py
def gEq : D → D → (D → Prop) → Prop := fun x y P => x.cmpOk = true ∧ y.cmpOk = true ∧ P (.bl (PyData.eqv x.py y.py))
def gNe : D → D → (D → Prop) → Prop := fun x y P => x.cmpOk = true ∧ y.cmpOk = true ∧ P (.bl (!PyData.eqv x.py y.py))
theorem cmpOk_and {d : D} (h : d.cmpOk = true) : d.isPy = true ∧ SeqAt.shaped d.py = true := Bool.and_eq_true_iff.mp h
section
variable {X : Cx} {a b : Expr} {ta tb : DE} {pos : Pos}
theorem od_eq {K : PySem.W.Frag} : OpD K (rEqD K) gEq := fun x y P h v w H0 H1 p q Q e o1 o2 k => ⟨_, _, o1.dp e (cmpOk_and h.1).1, o2.dp e (cmpOk_and h.2.1).1, (cmpOk_and h.1).2, (cmpOk_and h.2.1).2, k.val e h.2.2 (.bl _)⟩
theorem od_ne {K : PySem.W.Frag} : OpD K (rNeD K) gNe := fun x y P h v w H0 H1 p q Q e o1 o2 k => ⟨_, _, o1.dp e (cmpOk_and h.1).1, o2.dp e (cmpOk_and h.2.1).1, (cmpOk_and h.1).2, (cmpOk_and h.2.1).2, k.val e h.2.2 (.bl _)⟩
/-- x in xs -/
def gIn : D → D → (D → Prop) → Prop := fun x y P => match y.items with
  | some ds => x.cmpOk = true ∧ (D.lst ds).cmpOk = true ∧ P (.bl ((pyL ds).any fun z => PyData.eqv z x.py))
  | none => False
def gNotIn : D → D → (D → Prop) → Prop := fun x y P => match y.items with
  | some ds => x.cmpOk = true ∧ (D.lst ds).cmpOk = true ∧ P (.bl (!(pyL ds).any fun z => PyData.eqv z x.py))
  | none => False
theorem items_dp {K : PySem.W.Frag} {H0 H1 : Hp} {p : List Addr} {v : V} {d : D} {ds : List D} (e : Same H0 H1) (o : Own K H0 H1 p v d) (q : d.items = some ds) (c : (D.lst ds).cmpOk = true) : Dp K H1 v (.list (pyL ds)) := by
  obtain ⟨a, vs, rfl, h1, h2⟩ := o.items e q
  exact .lst h1 (dps_mono e _ _ (RepL.dp ds _ (cmpOk_and c).1 h2))
theorem od_in {K : PySem.W.Frag} : OpD K (rInD K) gIn := fun x y P h v w H0 H1 p q Q e o1 o2 k => by
    unfold gIn at h
    cases i : y.items with
    | none => rw [i] at h; exact h.elim
    | some ds =>
      rw [i] at h
      exact ⟨_, _, o1.dp e (cmpOk_and h.1).1, items_dp e o2 i h.2.1, (cmpOk_and h.1).2, (cmpOk_and h.2.1).2, k.val e h.2.2 (.bl _)⟩
theorem od_notIn {K : PySem.W.Frag} : OpD K (rNotInD K) gNotIn := fun x y P h v w H0 H1 p q Q e o1 o2 k => by
    unfold gNotIn at h
    cases i : y.items with
    | none => rw [i] at h; exact h.elim
    | some ds =>
      rw [i] at h
      exact ⟨_, _, o1.dp e (cmpOk_and h.1).1, items_dp e o2 i h.2.1, (cmpOk_and h.1).2, (cmpOk_and h.2.1).2, k.val e h.2.2 (.bl _)⟩
/-- kind in (one, other): flat things -/
def D.flat : D → Bool
  | .bl _ => true
  | .int _ => true
  | _ => false
def gInT : D → D → (D → Prop) → Prop := fun x y P => match x, y with
  | .int i, .tup [.int j, .int k] => P (.bl (decide (i = j) || decide (i = k)))
  | _, _ => False
theorem eqV_int (i j : Int) : eqV (.int i) (.int j) = decide (i = j) := by
  first | rfl | exact Bool.beq_eq_decide_eq i j | (unfold eqV; simp)
theorem od_inT {K : PySem.W.Frag} : OpD K (rIn K false) gInT := fun x y P h v w H0 H1 p q Q e o1 o2 k => by
  unfold gInT at h
  split at h
  · rename_i i j l
    obtain ⟨a, vs, rfl, h1, h2⟩ := o2.tup e
    have ev : vs = [.int j, .int l] := by
      have z : [D.int j, D.int l] = [j, l].map D.int := rfl
      rw [z] at h2
      exact h2.ints
    subst ev
    rw [o1.int]
    refine ⟨a, _, rfl, .inr (.of h1), rfl, rfl, ?_⟩
    have z : inV (.int i) [.int j, .int l] = (decide (i = j) || decide (i = l)) := by
      show (eqV (.int j) (.int i) || (eqV (.int l) (.int i) || false)) = _
      rw [eqV_int, eqV_int, Bool.or_false]
      congr 1 <;> exact decide_eq_decide.mpr ⟨Eq.symm, Eq.symm⟩
    show Q (.bl (if false = true then _ else _)) H1
    rw [if_neg Bool.false_ne_true, z]
    exact k.val e h (.bl _)
  · exact h.elim
/-! ### is -/
def gIs (f : Bool → Bool → Bool) : D → D → (D → Prop) → Prop := fun x y P => match x, y with
  | .bl i, .bl j => P (.bl (f i j))
  | _, _ => False
theorem od_is {K : PySem.W.Frag} : OpD K rIsB (gIs fun i j => decide (i = j)) := fun x y P h v w H0 H1 p q Q e o1 o2 k => by
  unfold gIs at h
  split at h
  · exact ⟨_, _, o1.bl, o2.bl, k.val e h (.bl _)⟩
  · exact h.elim
theorem od_isNot {K : PySem.W.Frag} : OpD K rNotB (gIs fun i j => !decide (i = j)) := fun x y P h v w H0 H1 p q Q e o1 o2 k => by
  unfold gIs at h
  split at h
  · exact ⟨_, _, o1.bl, o2.bl, k.val e h (.bl _)⟩
  · exact h.elim
def D.isNon : D → Bool
  | .non => true
  | _ => false
theorem own_non {K : PySem.W.Frag} {H0 H1 : Hp} {p : List Addr} {v : V} {d : D} (o : Own K H0 H1 p v d) : decide (v = .non) = d.isNon := by
  cases o with
  | one r =>
    cases r with
    | leaf r => cases r <;> rfl
    | olst _ _ => rfl
    | oll _ _ => rfl
  | oobj _ _ => rfl
def dU (g : D → D) (ta : DE) : DE := fun δ P => ta δ fun x => P (g x.un)
theorem pd_isNon {j p2} (ha : PEd X a ua ta) : PEd X (.Compare a [.Is] [.Constant .none j p2] pos) (tIsN ua) (dU (fun x => .bl x.isNon) ta) := by
  obtain ⟨a1, a2⟩ := ha
  refine ⟨pe_cmp (pc_isN a1) (by rfl), fun δ P hT H0 H1 σ Q e env k => a2 δ _ hT H0 H1 σ _ e env fun v x G0 G hx s r => ?_⟩
  obtain ⟨p, o⟩ := r.un
  rw [own_non o]
  exact (k.after s).val s.e2 hx (.bl _)
theorem pd_notNon {j p2} (ha : PEd X a ua ta) : PEd X (.Compare a [.IsNot] [.Constant .none j p2] pos) (tNotN ua) (dU (fun x => .bl (!x.isNon)) ta) := by
  obtain ⟨a1, a2⟩ := ha
  refine ⟨pe_cmp (pc_notN a1) (by rfl), fun δ P hT H0 H1 σ Q e env k => a2 δ _ hT H0 H1 σ _ e env fun v x G0 G hx s r => ?_⟩
  obtain ⟨p, o⟩ := r.un
  rw [own_non o]
  exact (k.after s).val s.e2 hx (.bl _)

/-! ### tests -/
def asB (x : D) (P : Bool → Prop) : Prop := match x with
  | .bl b => P b
  | _ => False
theorem asB_inv {x : D} {P : Bool → Prop} (h : asB x P) : ∃ b, x = .bl b ∧ P b := by
  cases x <;> first | exact h.elim | exact ⟨_, rfl, h⟩
def dT (ta : DE) : DT := fun δ P => ta δ fun x => asB x P
theorem res_bl {K : PySem.W.Frag} {H1 G0 G : Hp} {v : V} {b : Bool} (r : Res K H1 G0 G v (.bl b)) : v = .bl b := by
  obtain ⟨p, o⟩ := r
  exact o.bl
/-- an expression as a test -/
theorem pt_e {e : Expr} (h : PEd X e ua ta) (he : ∀ whole, isTrue e X.env whole = (do let v ← whole; standAt e.pos; holding [v] (truthy v)) := by intro _; rfl) : PTd X e (tB ua) (dT ta) := by
  obtain ⟨a1, a2⟩ := h
  refine ⟨pt_val a1 he, fun δ P hT H0 H1 σ Q e env k => a2 δ _ hT H0 H1 σ _ e env fun v x G0 G hx s r => ?_⟩
  obtain ⟨b, rfl, hp⟩ := asB_inv hx
  exact ⟨b, res_bl r, k b G hp s.e1⟩
theorem pt_cmp1 {op : CmpOp} {r : R2} {g : D → D → (D → Prop) → Prop} (ho : OpR X (compareOp op) r) (hg : OpD X.K r g) (ha : PEd X a ua ta) (hb : PEd X b ub tb) (hm : behindInMarks op b = false := by first | exact nobehind _ (by decide) (by decide) | rfl) :
    PTd X (.Compare a [op] [b] pos) (tTest (tOp r ua ub)) (dT (dOp g ta tb)) := by
  obtain ⟨c1, c2⟩ := ha
  obtain ⟨d1, d2⟩ := hb
  refine ⟨pt_cmpR ho c1 d1 hm, fun δ P hT H0 H1 σ Q e env k => ?_⟩
  refine c2 δ _ hT H0 H1 σ _ e env fun v x G0 G hx s r1 => ?_
  refine d2 δ _ hx G0 G σ _ s.e2 (env.to s.e0 s.e1) fun w y I0 I hy s2 r2 => ?_
  obtain ⟨p, o1⟩ := (r1.to s2).un
  obtain ⟨q, o2⟩ := r2.un
  refine hg _ _ _ hy v w I0 I p q _ s2.e2 o1 o2 fun u d J0 J hd s3 r3 => ?_
  obtain ⟨b, rfl, hp⟩ := asB_inv hd
  exact ⟨b, res_bl r3, k b J hp ((s.e1.trans s2.e1).trans s3.e1)⟩
theorem pt_isNon {j p2} (ha : PEd X a ua ta) : PTd X (.Compare a [.Is] [.Constant .none j p2] pos) (tB (tIsN ua)) (dT (dU (fun x => .bl x.isNon) ta)) := by
  obtain ⟨a1, a2⟩ := ha
  refine ⟨pt_cmp (pc_isN a1) (by rfl), fun δ P hT H0 H1 σ Q e env k => a2 δ _ hT H0 H1 σ _ e env fun v x G0 G hx s r => ?_⟩
  obtain ⟨p, o⟩ := r.un
  rw [own_non o]
  exact ⟨_, rfl, k _ G hx s.e1⟩
theorem pt_notNon {j p2} (ha : PEd X a ua ta) : PTd X (.Compare a [.IsNot] [.Constant .none j p2] pos) (tB (tNotN ua)) (dT (dU (fun x => .bl (!x.isNon)) ta)) := by
  obtain ⟨a1, a2⟩ := ha
  refine ⟨pt_cmp (pc_notN a1) (by rfl), fun δ P hT H0 H1 σ Q e env k => a2 δ _ hT H0 H1 σ _ e env fun v x G0 G hx s r => ?_⟩
  obtain ⟨p, o⟩ := r.un
  rw [own_non o]
  exact ⟨_, rfl, k _ G hx s.e1⟩
def dTn (t : DT) : DT := fun δ P => t δ fun b => P (!b)
def dTa (t u : DT) : DT := fun δ P => t δ fun b => match b with
  | true => u δ P
  | false => P false
def dTo (t u : DT) : DT := fun δ P => t δ fun b => match b with
  | true => P true
  | false => u δ P
theorem pt_n {e : Expr} {t : DT} (h : PTd X e ut t) : PTd X (.UnaryOp .Not e pos) (tNot ut) (dTn t) := by
  obtain ⟨a1, a2⟩ := h
  exact ⟨pt_not a1, fun δ P hT H0 H1 σ Q e env k => a2 δ _ hT H0 H1 σ _ e env fun b G hp s => k _ G hp s⟩
structure PWd (X : Cx) (e : Expr) (tt : TT) (T : DT) : Prop where
  p : PW X e tt
  s : SndT X.K tt T
theorem PWd.t {e : Expr} {t : DT} (h : PWd X e ut t) : PTd X e ut t := by
  obtain ⟨a1, a2⟩ := h
  exact ⟨a1.pt, a2⟩
theorem pw_a1 {e : Expr} {t : DT} (h : PTd X e ut t) : PWd X (.BoolOp .And [e] pos) ut t := by
  obtain ⟨a1, a2⟩ := h
  exact ⟨pw_and1 a1, a2⟩
theorem pw_o1 {e : Expr} {t : DT} (h : PTd X e ut t) : PWd X (.BoolOp .Or [e] pos) ut t := by
  obtain ⟨a1, a2⟩ := h
  exact ⟨pw_or1 a1, a2⟩
theorem pw_a {e e2 : Expr} {es : List Expr} {t u : DT} (h : PTd X e ut t) (h2 : PWd X (.BoolOp .And (e2 :: es) pos) uu u) : PWd X (.BoolOp .And (e :: e2 :: es) pos) (tAnd ut uu) (dTa t u) := by
  obtain ⟨a1, a2⟩ := h
  obtain ⟨b1, b2⟩ := h2
  refine ⟨pw_and a1 b1, fun δ P hT H0 H1 σ Q e env k => a2 δ _ hT H0 H1 σ _ e env fun b G hp s => ?_⟩
  cases b with
  | true =>
    rw [if_pos rfl]
    exact b2 δ _ hp H0 G σ Q (e.trans s) (env.to (Same.refl _) s) fun b I hp s2 => k b I hp (s.trans s2)
  | false =>
    rw [if_neg Bool.false_ne_true]
    exact k _ G hp s
theorem pw_o {e e2 : Expr} {es : List Expr} {t u : DT} (h : PTd X e ut t) (h2 : PWd X (.BoolOp .Or (e2 :: es) pos) uu u) : PWd X (.BoolOp .Or (e :: e2 :: es) pos) (tOr ut uu) (dTo t u) := by
  obtain ⟨a1, a2⟩ := h
  obtain ⟨b1, b2⟩ := h2
  refine ⟨pw_or a1 b1, fun δ P hT H0 H1 σ Q e env k => a2 δ _ hT H0 H1 σ _ e env fun b G hp s => ?_⟩
  cases b with
  | true =>
    rw [if_pos rfl]
    exact k _ G hp s
  | false =>
    rw [if_neg Bool.false_ne_true]
    exact b2 δ _ hp H0 G σ Q (e.trans s) (env.to (Same.refl _) s) fun b I hp s2 => k b I hp (s.trans s2)

/-! ### the same as values -/
def dAnd (ta tb : DE) : DE := fun δ P => ta δ fun x => asB x fun b => match b with
  | true => tb δ P
  | false => P (.bl false)
def dOr (ta tb : DE) : DE := fun δ P => ta δ fun x => asB x fun b => match b with
  | true => P (.bl true)
  | false => tb δ P
theorem pd_one {e : Expr} {op} (h : PEd X e ua ta) : PEd X (.BoolOp op [e] pos) ua ta := by
  obtain ⟨a1, a2⟩ := h
  exact ⟨pe_one a1, a2⟩
theorem pd_and {e e2 : Expr} {es : List Expr} (h : PEd X e ua ta) (h2 : PEd X (.BoolOp .And (e2 :: es) pos) ub tb) : PEd X (.BoolOp .And (e :: e2 :: es) pos) (tAndV ua ub) (dAnd ta tb) := by
  obtain ⟨a1, a2⟩ := h
  obtain ⟨b1, b2⟩ := h2
  refine ⟨pe_and a1 b1, fun δ P hT H0 H1 σ Q e env k => a2 δ _ hT H0 H1 σ _ e env fun v x G0 G hx s r => ?_⟩
  obtain ⟨b, rfl, hp⟩ := asB_inv hx
  refine ⟨b, res_bl r, ?_⟩
  cases b with
  | true =>
    rw [if_pos rfl]
    exact b2 δ _ hp G0 G σ Q s.e2 (env.to s.e0 s.e1) (k.after s)
  | false =>
    rw [if_neg Bool.false_ne_true]
    exact (k.after s).val s.e2 hp (.bl _)
theorem pd_or {e e2 : Expr} {es : List Expr} (h : PEd X e ua ta) (h2 : PEd X (.BoolOp .Or (e2 :: es) pos) ub tb) : PEd X (.BoolOp .Or (e :: e2 :: es) pos) (tOrV ua ub) (dOr ta tb) := by
  obtain ⟨a1, a2⟩ := h
  obtain ⟨b1, b2⟩ := h2
  refine ⟨pe_or a1 b1, fun δ P hT H0 H1 σ Q e env k => a2 δ _ hT H0 H1 σ _ e env fun v x G0 G hx s r => ?_⟩
  obtain ⟨b, rfl, hp⟩ := asB_inv hx
  refine ⟨b, res_bl r, ?_⟩
  cases b with
  | true =>
    rw [if_pos rfl]
    exact (k.after s).val s.e2 hp (.bl _)
  | false =>
    rw [if_neg Bool.false_ne_true]
    exact b2 δ _ hp G0 G σ Q s.e2 (env.to s.e0 s.e1) (k.after s)
def dNot (ta : DE) : DE := fun δ P => ta δ fun x => asB x fun b => P (.bl (!b))
theorem pd_not {e : Expr} (h : PEd X e ua ta) : PEd X (.UnaryOp .Not e pos) (tNotV ua) (dNot ta) := by
  obtain ⟨a1, a2⟩ := h
  refine ⟨pe_not a1, fun δ P hT H0 H1 σ Q e env k => a2 δ _ hT H0 H1 σ _ e env fun v x G0 G hx s r => ?_⟩
  obtain ⟨b, rfl, hp⟩ := asB_inv hx
  exact ⟨b, res_bl r, (k.after s).val s.e2 hp (.bl _)⟩
def dIf (t : DT) (ta tb : DE) : DE := fun δ P => t δ fun b => match b with
  | true => ta δ P
  | false => tb δ P
theorem pd_if {c e e2 : Expr} {t : DT} (hc : PTd X c ut t) (h : PEd X e ua ta) (h2 : PEd X e2 ub tb) : PEd X (.IfExp c e e2 pos) (tIf ut ua ub) (dIf t ta tb) := by
  obtain ⟨c1, c2⟩ := hc
  obtain ⟨a1, a2⟩ := h
  obtain ⟨b1, b2⟩ := h2
  refine ⟨pe_ifExp c1 a1 b1, fun δ P hT H0 H1 σ Q e env k => c2 δ _ hT H0 H1 σ _ e env fun b G hp s => ?_⟩
  have k2 : Kont X.K H0 G P Q := fun v d I0 I hp t r => k v d I0 I hp ⟨s.trans t.e1, t.e0, t.e2, fun a o q n => s.free (t.fr a o q n)⟩ (r.back s)
  cases b with
  | true =>
    rw [if_pos rfl]
    exact a2 δ _ hp H0 G σ Q (e.trans s) (env.to (Same.refl _) s) k2
  | false =>
    rw [if_neg Bool.false_ne_true]
    exact b2 δ _ hp H0 G σ Q (e.trans s) (env.to (Same.refl _) s) k2

/-! ### chains of comparisons -/
theorem od_le {K : PySem.W.Frag} : OpD K (rI0 fun i j => .bl (decide (i ≤ j))) gLe := od_I0 fun i j _ => .bl _
theorem od_lt {K : PySem.W.Frag} : OpD K (rI0 fun i j => .bl (decide (i < j))) gLt := od_I0 fun i j _ => .bl _
theorem od_gt {K : PySem.W.Frag} : OpD K (rI0 fun i j => .bl (decide (j < i))) gGt := od_I0 fun i j _ => .bl _
theorem od_ge {K : PySem.W.Frag} : OpD K (rI0 fun i j => .bl (decide (j ≤ i))) gGe := od_I0 fun i j _ => .bl _

def dCh (g g' : D → D → (D → Prop) → Prop) (ta tb tc : DE) : DE := fun δ P => ta δ fun x => tb δ fun y => g x.un y.un fun z => asB z fun b => match b with
  | true => tc δ fun w => g' y.un w.un P
  | false => P (.bl false)
theorem pd_chain {c : Expr} {tc : DE} {op op' : CmpOp} {r r' : R2} {g g' : D → D → (D → Prop) → Prop} (ho : OpR X (compareOp op) r) (ho' : OpR X (compareOp op') r') (hg : OpD X.K r g) (hg' : OpD X.K r' g') (ha : PEd X a ua ta) (hb : PEd X b ub tb) (hc : PEd X c uc tc)
    (hm : lastMarks [op, op'] [b, c] = false := by with_unfolding_all rfl) : PEd X (.Compare a [op, op'] [b, c] pos) (tChain r r' ua ub uc) (dCh g g' ta tb tc) := by
  obtain ⟨a1, a2⟩ := ha
  obtain ⟨b1, b2⟩ := hb
  obtain ⟨c1, c2⟩ := hc
  refine ⟨pe_chain ho ho' a1 b1 c1 hm, fun δ P hT H0 H1 σ Q e env k => ?_⟩
  refine a2 δ _ hT H0 H1 σ _ e env fun v x G0 G hx s r1 => ?_
  refine b2 δ _ hx G0 G σ _ s.e2 (env.to s.e0 s.e1) fun w y I0 I hy s2 r2 => ?_
  obtain ⟨p, o1⟩ := (r1.to s2).un
  obtain ⟨q, o2⟩ := r2.un
  refine hg _ _ _ hy v w I0 I p q _ s2.e2 o1 o2 fun u d J0 J hd s3 r3 => ?_
  obtain ⟨b, rfl, hp⟩ := asB_inv hd
  refine ⟨b, res_bl r3, ?_⟩
  have s4 := (s.trans s2).trans s3
  cases b with
  | true =>
    rw [if_pos rfl]
    refine c2 δ _ hp J0 J σ _ s3.e2 (env.to s4.e0 s4.e1) fun u2 d2 L0 L hd2 s5 r5 => ?_
    obtain ⟨q3, o3⟩ := r5.un
    exact hg' _ _ _ hd2 w u2 L0 L q q3 Q s5.e2 ((o2.to s3.e0 s3.e1).to s5.e0 s5.e1) o3 (k.after (s4.trans s5))
  | false =>
    rw [if_neg Bool.false_ne_true]
    exact (k.after s4).val s3.e2 hp (.bl _)
theorem pt_chain1 {c : Expr} {tc : DE} {op op' : CmpOp} {r r' : R2} {g g' : D → D → (D → Prop) → Prop} (ho : OpR X (compareOp op) r) (ho' : OpR X (compareOp op') r') (hg : OpD X.K r g) (hg' : OpD X.K r' g') (ha : PEd X a ua ta) (hb : PEd X b ub tb) (hc : PEd X c uc tc)
    (hm : lastMarks [op, op'] [b, c] = false := by with_unfolding_all rfl) : PTd X (.Compare a [op, op'] [b, c] pos) (tTest (tChain r r' ua ub uc)) (dT (dCh g g' ta tb tc)) := by
  obtain ⟨a1, a2⟩ := ha
  obtain ⟨b1, b2⟩ := hb
  obtain ⟨c1, c2⟩ := hc
  refine ⟨pt_chain ho ho' a1 b1 c1 hm, fun δ P hT H0 H1 σ Q e env k => ?_⟩
  refine a2 δ _ hT H0 H1 σ _ e env fun v x G0 G hx s r1 => ?_
  refine b2 δ _ hx G0 G σ _ s.e2 (env.to s.e0 s.e1) fun w y I0 I hy s2 r2 => ?_
  obtain ⟨p, o1⟩ := (r1.to s2).un
  obtain ⟨q, o2⟩ := r2.un
  refine hg _ _ _ hy v w I0 I p q _ s2.e2 o1 o2 fun u d J0 J hd s3 r3 => ?_
  obtain ⟨b, rfl, hp⟩ := asB_inv hd
  refine ⟨b, res_bl r3, ?_⟩
  have s4 := (s.trans s2).trans s3
  cases b with
  | true =>
    rw [if_pos rfl]
    refine c2 δ _ hp J0 J σ _ s3.e2 (env.to s4.e0 s4.e1) fun u2 d2 L0 L hd2 s5 r5 => ?_
    obtain ⟨q3, o3⟩ := r5.un
    refine hg' _ _ _ hd2 w u2 L0 L q q3 _ s5.e2 ((o2.to s3.e0 s3.e1).to s5.e0 s5.e1) o3 fun u4 d4 M0 M hd4 s6 r6 => ?_
    obtain ⟨b4, rfl, hp4⟩ := asB_inv hd4
    exact ⟨b4, res_bl r6, k b4 M hp4 ((s4.e1.trans s5.e1).trans s6.e1)⟩
  | false =>
    rw [if_neg Bool.false_ne_true]
    exact ⟨false, rfl, k false J hp s4.e1⟩
end
end J
/-! J5: arguments, calls, built-ins, subscripts, displays, fields -/
namespace J
open PySem L2

/-! ### arguments -/
def dNil : DA := fun _ P => P []
def dCons (ta : DE) (tr : DA) : DA := fun δ P => ta δ fun x => tr δ fun xs => P (x.un :: xs)
section
variable {X : Cx} {e : Expr} {es : List Expr} {ta tb : DE} {tr : DA} {pos : Pos}
theorem pa_0 : PAd X [] tNil dNil := ⟨pa_nil, fun δ P h H0 H1 σ Q e env k => k [] [] H0 H1 h (Step.refl e) .nil⟩
theorem pa_c (ha : PEd X e ua ta) (hr : PAd X es ur tr) (hs : starEach (e :: es) X.env = (false, eval e X.env) :: starEach es X.env := by rfl) : PAd X (e :: es) (tCons ua ur) (dCons ta tr) := by
  obtain ⟨a1, a2⟩ := ha
  obtain ⟨b1, b2⟩ := hr
  refine ⟨pa_cons a1 b1 hs, fun δ P hT H0 H1 σ Q e env k => ?_⟩
  refine a2 δ _ hT H0 H1 σ _ e env fun v x G0 G hx s r => ?_
  refine b2 δ _ hx G0 G σ _ s.e2 (env.to s.e0 s.e1) fun vs ds I0 I hp s2 al => ?_
  exact k (v :: vs) (x.un :: ds) I0 I hp (s.trans s2) (.cons ((r.to s2).un) al)
/-! ### built-ins by values -/
def CallD (K : PySem.W.Frag) (r : List V → Hp → VK → Prop) (g : List D → (D → Prop) → Prop) : Prop :=
  ∀ ds P, g ds P → ∀ vs H0 H1 Q, Same H0 H1 → AL K H0 H1 vs ds → Kont K H0 H1 P Q → r vs H1 Q
def dCB (g : List D → (D → Prop) → Prop) (t : DA) : DE := fun δ P => t δ fun ds => g ds P
theorem pd_cb {e : Expr} {es : List Expr} {r : List V → Hp → VK → Prop} {g : List D → (D → Prop) → Prop} (hp : ∀ t, PA X es t → PE X e (tCB r t)) (hg : CallD X.K r g) (ha : PAd X es ur tr) : PEd X e (tCB r ur) (dCB g tr) := by
  obtain ⟨b1, b2⟩ := ha
  exact ⟨hp _ b1, fun δ P hT H0 H1 σ Q e env k => b2 δ _ hT H0 H1 σ _ e env fun vs ds G0 G hx s al => hg ds P hx vs G0 G Q s.e2 al (k.after s)⟩
/-- f(..), a built-in function; a built-in type -/
theorem pd_fn {x : Str} {p : Pos} {id : String} {r : List V → Hp → VK → Prop} {g : List D → (D → Prop) → Prop} (hc : CallR X (.builtin id) r) (hg : CallD X.K r g) (hm : X.mg x = none) (hv : bootBuiltins x = some (.builtin id)) (ha : PAd X (e :: es) ur tr) (hgl : Gl X x := by rfl) (hn : x ≠ "__name__" := by decide)
    (hdb : (x == ("__debug__" : Str)) = false := by decide) (he : starEach (e :: es) X.env = (false, eval e X.env) :: starEach es X.env := by rfl) (hpl : (backTo pos (starEach es X.env)).any (·.1) = false := by rfl) : PEd X (.Call (.Name x p) (e :: es) [] pos) (tCB r ur) (dCB g tr) :=
  pd_cb (fun t h => pe_callB hc hgl hm hv h hn hdb he hpl) hg ha
theorem pd_ty {x : Str} {p : Pos} {id : String} {r : List V → Hp → VK → Prop} {g : List D → (D → Prop) → Prop} (hc : CallR X (.type id) r) (hg : CallD X.K r g) (hm : X.mg x = none) (hv : bootBuiltins x = some (.type id)) (ha : PAd X (e :: es) ur tr) (hgl : Gl X x := by rfl) (hn : x ≠ "__name__" := by decide)
    (hdb : (x == ("__debug__" : Str)) = false := by decide) (he : starEach (e :: es) X.env = (false, eval e X.env) :: starEach es X.env := by rfl) (hpl : (backTo pos (starEach es X.env)).any (·.1) = false := by rfl) : PEd X (.Call (.Name x p) (e :: es) [] pos) (tCB r ur) (dCB g tr) :=
  pd_cb (fun t h => pe_callTy hc hgl hm hv h hn hdb he hpl) hg ha
end
section
variable {K : PySem.W.Frag} {H0 H1 : Hp}
theorem al1 {vs : List V} {x : D} (h : AL K H0 H1 vs [x]) : ∃ v p, vs = [v] ∧ Own K H0 H1 p v x := by
  cases h with
  | cons a t =>
    cases t
    obtain ⟨p, o⟩ := a
    exact ⟨_, p, rfl, o⟩
theorem al2 {vs : List V} {x y : D} (h : AL K H0 H1 vs [x, y]) : ∃ v p w q, vs = [v, w] ∧ Own K H0 H1 p v x ∧ Own K H0 H1 q w y := by
  cases h with
  | cons a t =>
    obtain ⟨p, o⟩ := a
    obtain ⟨w, q, e, o2⟩ := al1 t
    subst e
    exact ⟨_, p, w, q, rfl, o, o2⟩
end
def g1 (g : D → (D → Prop) → Prop) : List D → (D → Prop) → Prop := fun ds P => match ds with
  | [x] => g x P
  | _ => False
theorem g1_inv {g : D → (D → Prop) → Prop} {ds : List D} {P : D → Prop} (h : g1 g ds P) : ∃ x, ds = [x] ∧ g x P := by
  unfold g1 at h
  split at h
  · exact ⟨_, rfl, h⟩
  · exact h.elim
def g2 (g : D → D → (D → Prop) → Prop) : List D → (D → Prop) → Prop := fun ds P => match ds with
  | [x, y] => g x y P
  | _ => False
theorem g2_inv {g : D → D → (D → Prop) → Prop} {ds : List D} {P : D → Prop} (h : g2 g ds P) : ∃ x y, ds = [x, y] ∧ g x y P := by
  unfold g2 at h
  split at h
  · exact ⟨_, _, rfl, h⟩
  · exact h.elim
/-- how many items -/
def D.size : D → Option Nat
  | .lst ds => some ds.length
  | .olst ds => some ds.length
  | .oll dss => some dss.length
  | .scr ns => some ns.length
  | .tup ds => some ds.length
  | _ => none
def gLen : List D → (D → Prop) → Prop := g1 fun x P => match x.size with
  | some n => P (.int (n : Int))
  | none => False
def gList : List D → (D → Prop) → Prop := g1 fun x P => match x.items with
  | some ds => P (.mv (.olst ds))
  | none => False
def D.ints : D → Option (List Int)
  | .scr ns => some ns
  | .lst ds => ds.foldr (fun d r => match d, r with | .int i, some l => some (i :: l) | _, _ => none) (some [])
  | .olst ds => ds.foldr (fun d r => match d, r with | .int i, some l => some (i :: l) | _, _ => none) (some [])
  | _ => none
theorem toInts_map : ∀ {ds : List D} {ns : List Int}, ds.foldr (fun d r => match d, r with | .int i, some l => some (i :: l) | _, _ => none) (some []) = some ns → ds = ns.map D.int
  | [], ns, h => by
    have e : [] = ns := Option.some.inj h
    rw [← e] <;> rfl
  | d :: ds, ns, h => by
    rw [List.foldr_cons] at h
    split at h
    · rename_i i l e
      have e2 := toInts_map e
      have e3 : i :: l = ns := Option.some.inj h
      rw [← e3, List.map_cons, ← e2]
    · cases h
theorem ints_toInts : ∀ ns : List Int, (ns.map D.int).foldr (fun d r => match d, r with | .int i, some l => some (i :: l) | _, _ => none) (some []) = some ns
  | [] => rfl
  | n :: ns => by
    rw [List.map_cons, List.foldr_cons, ints_toInts ns] <;> rfl
theorem ints_lst (ns : List Int) : (D.lst (ns.map .int)).ints = some ns := ints_toInts ns
theorem ints_olst (ns : List Int) : (D.olst (ns.map .int)).ints = some ns := ints_toInts ns
theorem ints_scr (ns : List Int) : (D.scr ns).ints = some ns := rfl
def D.bools : D → Option (List Bool)
  | .lst ds => ds.foldr (fun d r => match d, r with | .bl i, some l => some (i :: l) | _, _ => none) (some [])
  | .olst ds => ds.foldr (fun d r => match d, r with | .bl i, some l => some (i :: l) | _, _ => none) (some [])
  | _ => none
theorem toBools_map : ∀ {ds : List D} {ns : List Bool}, ds.foldr (fun d r => match d, r with | .bl i, some l => some (i :: l) | _, _ => none) (some []) = some ns → ds = ns.map D.bl
  | [], ns, h => by
    have e : [] = ns := Option.some.inj h
    rw [← e] <;> rfl
  | d :: ds, ns, h => by
    rw [List.foldr_cons] at h
    split at h
    · rename_i i l e
      have e2 := toBools_map e
      have e3 : i :: l = ns := Option.some.inj h
      rw [← e3, List.map_cons, ← e2]
    · cases h
theorem bools_toBools : ∀ ns : List Bool, (ns.map D.bl).foldr (fun d r => match d, r with | .bl i, some l => some (i :: l) | _, _ => none) (some []) = some ns
  | [] => rfl
  | n :: ns => by
    rw [List.map_cons, List.foldr_cons, bools_toBools ns] <;> rfl
theorem bools_lst (ns : List Bool) : (D.lst (ns.map .bl)).bools = some ns := bools_toBools ns
theorem bools_olst (ns : List Bool) : (D.olst (ns.map .bl)).bools = some ns := bools_toBools ns
section
variable {K : PySem.W.Frag} {H0 H1 : Hp} {p : List Addr} {v : V}
theorem Own.ints {d : D} {ns : List Int} (h : Own K H0 H1 p v d) (e : Same H0 H1) (q : d.ints = some ns) : ∃ a, v = .ref a ∧ SqL K H1 a (ns.map V.int) := by
  have key : ∀ ds, d.items = some ds → ds = ns.map D.int → ∃ a, v = .ref a ∧ SqL K H1 a (ns.map V.int) := fun ds i e2 => by
    obtain ⟨a, vs, h1, h2, h3⟩ := h.items e i
    rw [e2] at h3
    rw [h3.ints] at h2
    exact ⟨a, h1, h2⟩
  cases d with
  | lst ds => exact key ds rfl (toInts_map q)
  | olst ds => exact key ds rfl (toInts_map q)
  | scr ms =>
    have e2 : ms = ns := Option.some.inj q
    subst e2
    exact key _ rfl rfl
  | _ => cases q
theorem Own.bools {d : D} {ns : List Bool} (h : Own K H0 H1 p v d) (e : Same H0 H1) (q : d.bools = some ns) : ∃ a, v = .ref a ∧ SqL K H1 a (ns.map V.bl) := by
  have key : ∀ ds, d.items = some ds → ds = ns.map D.bl → ∃ a, v = .ref a ∧ SqL K H1 a (ns.map V.bl) := fun ds i e2 => by
    obtain ⟨a, vs, h1, h2, h3⟩ := h.items e i
    rw [e2] at h3
    rw [h3.bools] at h2
    exact ⟨a, h1, h2⟩
  cases d with
  | lst ds => exact key ds rfl (toBools_map q)
  | olst ds => exact key ds rfl (toBools_map q)
  | _ => cases q
theorem RepLL.len : ∀ {as : List Addr} {dss : List (List D)}, RepLL K H0 H1 as dss → as.length = dss.length
  | _, _, .nil => rfl
  | _, _, .cons _ _ t => congrArg (· + 1) t.len
theorem Own.size {d : D} {n : Nat} (h : Own K H0 H1 p v d) (e : Same H0 H1) (q : d.size = some n) : ∃ a vs, v = .ref a ∧ (SqL K H1 a vs ∨ SqT K H1 a vs) ∧ vs.length = n := by
  cases d with
  | lst ds =>
    obtain ⟨a, vs, h1, h2, h3⟩ := h.items e (ds := ds) rfl
    exact ⟨a, vs, h1, .inl h2, h3.len.trans (Option.some.inj q)⟩
  | olst ds =>
    obtain ⟨a, vs, h1, h2, h3⟩ := h.items e (ds := ds) rfl
    exact ⟨a, vs, h1, .inl h2, h3.len.trans (Option.some.inj q)⟩
  | scr ns =>
    obtain ⟨a, vs, h1, h2, h3⟩ := h.items e (ds := ns.map .int) rfl
    exact ⟨a, vs, h1, .inl h2, by rw [h3.len, List.length_map]; exact Option.some.inj q⟩
  | oll dss =>
    cases h with
    | one r =>
      cases r with
      | leaf r => cases r
      | oll h1 h2 => exact ⟨_, _, rfl, .inl (.of h1), by rw [List.length_map, h2.len]; exact Option.some.inj q⟩
  | tup ds =>
    obtain ⟨a, vs, h1, h2, h3⟩ := h.tup e
    exact ⟨a, vs, h1, .inr (.of h2), h3.len.trans (Option.some.inj q)⟩
  | _ => cases q
theorem cd_len : CallD K (fun xs H Q => ∃ p ys, xs = [.ref p] ∧ (SqL K H p ys ∨ SqT K H p ys) ∧ Q (.int ys.length) H) gLen := fun ds P h vs H0 H1 Q e al k => by
  obtain ⟨x, ex, hz⟩ := g1_inv h
  subst ex
  replace h := hz
  obtain ⟨v, p, rfl, o⟩ := al1 al
  cases q : x.size with
  | none => rw [q] at h; exact h.elim
  | some n =>
    rw [q] at h
    obtain ⟨a, vs, rfl, h1, h2⟩ := o.size e q
    refine ⟨a, vs, rfl, h1, ?_⟩
    rw [h2]
    exact k.val e h (.int _)
theorem cd_list : CallD K (fun xs H Q => ∃ p ys, xs = [.ref p] ∧ (SqL K H p ys ∨ SqT K H p ys) ∧ ∀ l, H l = none → Q (.ref l) (upd H l (.lst ys))) gList := fun ds P h vs H0 H1 Q e al k => by
  obtain ⟨x, ex, hz⟩ := g1_inv h
  subst ex
  replace h := hz
  obtain ⟨v, p, rfl, o⟩ := al1 al
  cases q : x.items with
  | none => rw [q] at h; exact h.elim
  | some ds =>
    rw [q] at h
    obtain ⟨a, vs, rfl, h1, h2⟩ := o.items e q
    exact ⟨a, vs, rfl, .inl h1, k.lst e h h2⟩
def gInts (f : List Int → (D → Prop) → Prop) : List D → (D → Prop) → Prop := g1 fun x P => match x.ints with
  | some ns => f ns P
  | none => False
theorem gInts_inv {f : List Int → (D → Prop) → Prop} {ds : List D} {P : D → Prop} (h : gInts f ds P) {vs : List V} (e : Same H0 H1) (al : AL K H0 H1 vs ds) : ∃ a ns, vs = [.ref a] ∧ SqL K H1 a (ns.map V.int) ∧ f ns P := by
  obtain ⟨x, ex, hz⟩ := g1_inv h
  subst ex
  replace h := hz
  obtain ⟨v, p, rfl, o⟩ := al1 al
  cases q : x.ints with
  | none => rw [q] at h; exact h.elim
  | some ns =>
    rw [q] at h
    obtain ⟨a, rfl, h1⟩ := o.ints e q
    exact ⟨a, ns, rfl, h1, h⟩
def gSum := gInts fun ns P => P (.int ns.sum)
theorem cd_sum : CallD K (rSum K) gSum := fun ds P h vs H0 H1 Q e al k => by
  obtain ⟨a, ns, ex, h1, hz⟩ := gInts_inv h e al
  subst ex
  replace h := hz
  exact ⟨a, ns, rfl, h1, k.val e h (.int _)⟩
def gMax := gInts fun ns P => 0 < ns.length ∧ ∀ m, m ∈ ns → (∀ y, y ∈ ns → y ≤ m) → P (.int m)
theorem cd_max : CallD K (rMax K) gMax := fun ds P h vs H0 H1 Q e al k => by
  obtain ⟨a, ns, ex, h1, hz⟩ := gInts_inv h e al
  subst ex
  replace h := hz
  exact ⟨a, ns, rfl, h1, h.1, fun m a b => k.val e (h.2 m a b) (.int _)⟩
def gSorted := gInts fun ns P => ∀ ms : List Int, ms.Perm ns → ms.Pairwise (· ≤ ·) → P (.mv (.olst (ms.map .int)))
theorem cd_sorted : CallD K (rSortedI K) gSorted := fun ds P h vs H0 H1 Q e al k => by
  obtain ⟨a, ns, ex, h1, hz⟩ := gInts_inv h e al
  subst ex
  replace h := hz
  exact ⟨a, ns, rfl, h1, fun ms q hp hs hq => k.lst e (h ms hp hs) (RepL.ofInts ms) q hq⟩
def gBools (f : List Bool → Bool) : List D → (D → Prop) → Prop := g1 fun x P => match x.bools with
  | some bs => P (.bl (f bs))
  | none => False
theorem gBools_inv {f : List Bool → Bool} {ds : List D} {P : D → Prop} (h : gBools f ds P) {vs : List V} (e : Same H0 H1) (al : AL K H0 H1 vs ds) : ∃ a bs, vs = [.ref a] ∧ SqL K H1 a (bs.map V.bl) ∧ P (.bl (f bs)) := by
  obtain ⟨x, ex, hz⟩ := g1_inv h
  subst ex
  replace h := hz
  obtain ⟨v, p, rfl, o⟩ := al1 al
  cases q : x.bools with
  | none => rw [q] at h; exact h.elim
  | some ns =>
    rw [q] at h
    obtain ⟨a, rfl, h1⟩ := o.bools e q
    exact ⟨a, ns, rfl, h1, h⟩
abbrev gAll := gBools fun bs => bs.all id
abbrev gAny := gBools fun bs => bs.any id
theorem cd_all : CallD K (rAll K) gAll := fun ds P h vs H0 H1 Q e al k => by
  obtain ⟨a, ns, ex, h1, hz⟩ := gBools_inv h e al
  subst ex
  replace h := hz
  exact ⟨a, ns, rfl, h1, k.val e h (.bl _)⟩
theorem cd_any : CallD K (rAny K) gAny := fun ds P h vs H0 H1 Q e al k => by
  obtain ⟨a, ns, ex, h1, hz⟩ := gBools_inv h e al
  subst ex
  replace h := hz
  exact ⟨a, ns, rfl, h1, k.val e h (.bl _)⟩
def gI2 (f : Int → Int → Int) : List D → (D → Prop) → Prop := g2 fun x y P => match x, y with
  | .int i, .int j => P (.int (f i j))
  | _, _ => False
theorem gI2_inv {f : Int → Int → Int} {ds : List D} {P : D → Prop} (h : gI2 f ds P) : ∃ i j, ds = [.int i, .int j] ∧ P (.int (f i j)) := by
  obtain ⟨x, y, ex, hz⟩ := g2_inv h
  subst ex
  replace h := hz
  split at h
  · exact ⟨_, _, rfl, h⟩
  · exact h.elim
theorem cd_max2 : CallD K (fun xs H Q => ∃ i j, xs = [.int i, .int j] ∧ Q (.int (if j > i then j else i)) H) (gI2 fun i j => if j > i then j else i) := fun ds P h vs H0 H1 Q e al k => by
  obtain ⟨i, j, ex, hz⟩ := gI2_inv h
  subst ex
  replace h := hz
  obtain ⟨v, p, w, q, rfl, o1, o2⟩ := al2 al
  exact ⟨i, j, by rw [o1.int, o2.int], k.val e h (.int _)⟩
theorem cd_min2 : CallD K (fun xs H Q => ∃ i j, xs = [.int i, .int j] ∧ Q (.int (if j < i then j else i)) H) (gI2 fun i j => if j < i then j else i) := fun ds P h vs H0 H1 Q e al k => by
  obtain ⟨i, j, ex, hz⟩ := gI2_inv h
  subst ex
  replace h := hz
  obtain ⟨v, p, w, q, rfl, o1, o2⟩ := al2 al
  exact ⟨i, j, by rw [o1.int, o2.int], k.val e h (.int _)⟩
end

/-! ### subscripts -/
/-- xs[i] of a list, a tuple -/
def gIx : D → D → (D → Prop) → Prop := fun x y P => match x, y with
  | .tup ds, .int i => (match atI ds i with
    | some d => P d
    | none => False)
  | .oll dss, .int i => (match atI dss i with
    | some ds => P (.olst ds)
    | none => False)
  | x, .int i => (match x.items with
    | some ds => (match atI ds i with
      | some d => P d
      | none => False)
    | none => False)
  | _, _ => False
theorem atI_len {α β : Type} {xs : List α} {ys : List β} (h : xs.length = ys.length) {i : Int} {d : α} (e : atI xs i = some d) : ∃ j : Nat, xs[j]? = some d ∧ ∀ v : β, ys[j]? = some v → atI ys i = some v := by
  unfold atI at e ⊢
  rw [← h]
  cases q : ixN xs.length i with
  | none => rw [q] at e; cases e
  | some j =>
    rw [q] at e
    exact ⟨j, e, fun v hv => hv⟩
theorem RepL.atI {K : PySem.W.Frag} {H : Hp} {vs : List V} {ds : List D} {i : Int} {d : D} (h : RepL K H vs ds) (e : L2.atI ds i = some d) : ∃ v, L2.atI vs i = some v ∧ Rep K H v d := by
  obtain ⟨j, h1, h2⟩ := atI_len (ys := vs) h.len.symm e
  obtain ⟨v, h3, h4⟩ := h.at h1
  exact ⟨v, h2 v h3, h4⟩
theorem RepLL.at : ∀ {K : PySem.W.Frag} {H0 H1 : Hp} {as : List Addr} {dss : List (List D)} {j : Nat} {ds : List D}, RepLL K H0 H1 as dss → dss[j]? = some ds → ∃ a vs, as[j]? = some a ∧ H1 a = some (.lst vs) ∧ RepL K H0 vs ds
  | _, _, _, _, _, _, _, .nil, e => by simp at e
  | _, _, _, _, _, 0, _, .cons h r _, e => by
    have e2 := Option.some.inj e
    subst e2
    exact ⟨_, _, rfl, h, r⟩
  | _, _, _, _, _, j + 1, _, .cons _ _ t, e => RepLL.at (j := j) t e
section
variable {X : Cx} {a b : Expr} {ta tb : DE} {pos : Pos}
theorem od_ix {K : PySem.W.Frag} : OpD K (fun x y H Q => rIxL K x y H Q ∨ rIxT K x y H Q) gIx := fun x y P h v w H0 H1 p q Q e o1 o2 k => by
  have key : ∀ i, y = .int i → (match x.items with
    | some ds => (match atI ds i with
      | some d => P d
      | none => False)
    | none => False) → (rIxL K v w H1 Q ∨ rIxT K v w H1 Q) := fun i ey z => by
    subst ey
    cases q : x.items with
    | none => rw [q] at z; exact z.elim
    | some ds =>
      rw [q] at z
      have z : (match atI ds i with
        | some d => P d
        | none => False) := z
      cases q2 : atI ds i with
      | none => rw [q2] at z; exact z.elim
      | some d =>
        rw [q2] at z
        obtain ⟨a, vs, rfl, h1, h2⟩ := o1.items e q
        obtain ⟨v, h3, h4⟩ := h2.atI q2
        exact .inl ⟨a, vs, i, v, rfl, o2.int, h1, h3, k.val e z h4⟩
  cases y with
  | int i =>
    cases x with
    | tup ds =>
      have z : (match atI ds i with
        | some d => P d
        | none => False) := h
      cases q2 : atI ds i with
      | none => rw [q2] at z; exact z.elim
      | some d =>
        rw [q2] at z
        obtain ⟨a, vs, rfl, h1, h2⟩ := o1.tup e
        obtain ⟨v, h3, h4⟩ := h2.atI q2
        exact .inr ⟨a, vs, i, v, rfl, o2.int, .of h1, h3, k.val e z h4⟩
    | oll dss =>
      have z : (match atI dss i with
        | some ds => P (.olst ds)
        | none => False) := h
      cases q2 : atI dss i with
      | none => rw [q2] at z; exact z.elim
      | some ds =>
        rw [q2] at z
        cases o1 with
        | one r =>
          cases r with
          | leaf r => cases r
          | oll h1 h2 =>
            rename_i a as
            obtain ⟨j, h3, h4⟩ := atI_len (ys := as.map V.ref) (by rw [List.length_map]; exact h2.len.symm) q2
            obtain ⟨b, vs, h5, h6, h7⟩ := h2.at h3
            refine .inl ⟨a, _, i, .ref b, rfl, o2.int, .of h1, h4 _ (by rw [List.getElem?_map, h5] <;> rfl), ?_⟩
            exact k _ (.olst ds) H0 H1 z (Step.refl e) (Res.plain (.one (.olst h6 h7)))
    | _ => exact key i rfl h
  | _ => cases x <;> exact h.elim
theorem pd_ix (ha : PEd X a ua ta) (hb : PEd X b ub tb) (hs : PlainIx b := by exact fun _ _ => rfl) : PEd X (.Subscript a b pos) (tOp (fun x y H Q => rIxL X.K x y H Q ∨ rIxT X.K x y H Q) ua ub) (dOp gIx ta tb) :=
  pd_op (fun _ _ h1 h2 => pe_ix (IxR.or ix_list ix_tup) h1 h2 hs) od_ix ha hb
/-! ### slices -/
abbrev DO : Type := List DV → (Option Int → Prop) → Prop
structure POd (X : Cx) (e : Option Expr) (to : TO) (T : DO) : Prop where
  p : PO X e to
  s : ∀ δ P, T δ P → ∀ H0 H1 σ Q, Same H0 H1 → EnvE X.K H0 H1 δ σ → (∀ o G, P o → Same H1 G → Q o G) → to σ H1 Q
def dNo : DO := fun _ P => P none
def asI (x : D) (P : Int → Prop) : Prop := match x with
  | .int b => P b
  | _ => False
theorem asI_inv {x : D} {P : Int → Prop} (h : asI x P) : ∃ b, x = .int b ∧ P b := by
  cases x <;> first | exact h.elim | exact ⟨_, rfl, h⟩
theorem res_int {K : PySem.W.Frag} {H1 G0 G : Hp} {v : V} {b : Int} (r : Res K H1 G0 G v (.int b)) : v = .int b := by
  obtain ⟨p, o⟩ := r
  exact o.int
def dSome (ta : DE) : DO := fun δ P => ta δ fun x => asI x fun i => P (some i)
theorem po_0 : POd X none tNoPart dNo := ⟨po_none, fun δ P h H0 H1 σ Q e env k => k none H1 h (Same.refl _)⟩
theorem po_1 (ha : PEd X a ua ta) : POd X (some a) (tPart ua) (dSome ta) := by
  obtain ⟨a1, a2⟩ := ha
  refine ⟨po_some a1, fun δ P hT H0 H1 σ Q e env k => a2 δ _ hT H0 H1 σ _ e env fun v x G0 G hx s r => ?_⟩
  obtain ⟨i, rfl, hp⟩ := asI_inv hx
  exact ⟨i, res_int r, k _ G hp s.e1⟩
/-- the items from lo to hi -/
def cutD {α : Type} (xs : List α) (lo hi : Option Int) : List α := (xs.drop (HT.sIx xs.length 0 lo)).take (HT.sIx xs.length xs.length hi - HT.sIx xs.length 0 lo)
def dSl (ta : DE) (tl th : DO) : DE := fun δ P => ta δ fun x => tl δ fun lo => th δ fun hi => match x.un.items with
  | some ds => P (.mv (.olst (cutD ds lo hi)))
  | none => False
theorem RepL.cut {K : PySem.W.Frag} {H : Hp} {vs : List V} {ds : List D} (h : RepL K H vs ds) (lo hi : Option Int) : RepL K H (cutV vs lo hi) (cutD ds lo hi) := by
  unfold cutV cutD
  rw [h.len]
  exact (h.dr _).tk _
theorem pd_sl {lo hi : Option Expr} {tl th : DO} {p2 : Pos} (ha : PEd X a ua ta) (hl : POd X lo ul tl) (hh : POd X hi uh th) : PEd X (.Subscript a (.Slice lo hi none p2) pos) (tSl (rSlL X.K) ua ul uh) (dSl ta tl th) := by
  obtain ⟨a1, a2⟩ := ha
  obtain ⟨b1, b2⟩ := hl
  obtain ⟨c1, c2⟩ := hh
  refine ⟨pe_slice sl_list a1 b1 c1, fun δ P hT H0 H1 σ Q e env k => a2 δ _ hT H0 H1 σ _ e env fun v x G0 G hx s r => ?_⟩
  refine b2 δ _ hx G0 G σ _ s.e2 (env.to s.e0 s.e1) fun o1 I h1 e1 => ?_
  refine c2 δ _ h1 G0 I σ _ (s.e2.trans e1) (env.to s.e0 (s.e1.trans e1)) fun o2 L h2 e2 => ?_
  obtain ⟨p, o⟩ := r.un
  have eL : Same G0 L := s.e2.trans (e1.trans e2)
  cases q : x.un.items with
  | none => rw [q] at h2; exact h2.elim
  | some ds =>
    rw [q] at h2
    obtain ⟨a, vs, rfl, h3, h4⟩ := (o.to (Same.refl _) (e1.trans e2)).items eL q
    exact ⟨a, vs, rfl, h3, (k.after (s.grow (e1.trans e2))).lst eL h2 (h4.cut o1 o2)⟩
/-- xs[::-1] -/
def dRev (ta : DE) : DE := fun δ P => ta δ fun x => match x.un.items with
  | some ds => P (.mv (.olst ds.reverse))
  | none => False
theorem pd_rev {k : Nat} {p1 p2 p3 : Pos} (ha : PEd X a ua ta) : PEd X (.Subscript a (.Slice none none (some (.UnaryOp .USub (.Constant (.int 1) k p1) p2)) p3) pos) (tRevL X.K ua) (dRev ta) := by
  obtain ⟨a1, a2⟩ := ha
  refine ⟨pe_revL a1, fun δ P hT H0 H1 σ Q e env k => a2 δ _ hT H0 H1 σ _ e env fun v x G0 G hx s r => ?_⟩
  obtain ⟨p, o⟩ := r.un
  dsimp only at hx
  cases q : x.un.items with
  | none => rw [q] at hx; exact hx.elim
  | some ds =>
    rw [q] at hx
    obtain ⟨a, vs, rfl, h3, h4⟩ := o.items s.e2 q
    exact ⟨a, vs, rfl, h3, (k.after s).lst s.e2 hx h4.rev⟩
/-- -a -/
theorem pd_neg (ha : PEd X a ua ta) : PEd X (.UnaryOp .USub a pos) (tUn (rU fun i => .int (-i)) ua) (fun δ P => ta δ fun x => asI x fun i => P (.int (-i))) := by
  obtain ⟨a1, a2⟩ := ha
  refine ⟨pe_un un_neg a1, fun δ P hT H0 H1 σ Q e env k => a2 δ _ hT H0 H1 σ _ e env fun v x G0 G hx s r => ?_⟩
  obtain ⟨i, rfl, hp⟩ := asI_inv hx
  exact ⟨i, res_int r, (k.after s).val s.e2 hp (.int _)⟩

/-! ### displays -/
/-- plain: told by what is known -/
def D.plain : D → Bool
  | .olst _ => false
  | .oll _ => false
  | .oobj _ _ => false
  | .mv _ => false
  | _ => true
theorem Own.rep_of {K : PySem.W.Frag} {H0 H1 : Hp} {p : List Addr} {v : V} {d : D} (h : Own K H0 H1 p v d) (e : d.plain = true) : Rep K H0 v d :=
  h.rep (fun _ z => by rw [z] at e; cases e) (fun _ z => by rw [z] at e; cases e) fun _ _ z => by rw [z] at e; cases e
theorem AL.rep : ∀ {K : PySem.W.Frag} {H0 H1 : Hp} {vs : List V} {ds : List D}, AL K H0 H1 vs ds → ds.all D.plain = true → RepL K H0 vs ds
  | _, _, _, _, _, .nil, _ => .nil
  | _, _, _, _, _, .cons ⟨p, h⟩ t, e => by
    rw [List.all_cons, Bool.and_eq_true] at e
    exact .cons (h.rep_of e.1) (AL.rep t e.2)
def dLst (t : DA) : DE := fun δ P => t δ fun ds => ds.all D.plain = true ∧ ds.length ≤ 100000 ∧ P (.mv (.olst ds))
def dTup (t : DA) : DE := fun δ P => t δ fun ds => ds.all D.plain = true ∧ ds.length ≤ 100000 ∧ P (.tup ds)
variable {es : List Expr} {tr : DA}
theorem pd_lst (ha : PAd X es ur tr) : PEd X (.List es pos) (tLst ur) (dLst tr) := by
  obtain ⟨a1, a2⟩ := ha
  refine ⟨pe_lst a1, fun δ P hT H0 H1 σ Q e env k => a2 δ _ hT H0 H1 σ _ e env fun vs ds G0 G hx s al => ?_⟩
  have r := al.rep hx.1
  exact ⟨sz5 (by rw [r.len]; exact hx.2.1), (k.after s).lst s.e2 hx.2.2 r⟩
theorem pd_tup {x1} (ha : PAd X es ur tr) : PEd X (.Tuple es x1 pos) (tTup ur) (dTup tr) := by
  obtain ⟨a1, a2⟩ := ha
  refine ⟨pe_tup a1, fun δ P hT H0 H1 σ Q e env k => a2 δ _ hT H0 H1 σ _ e env fun vs ds G0 G hx s al => ?_⟩
  have r := al.rep hx.1
  exact ⟨sz5 (by rw [r.len]; exact hx.2.1), (k.after s).tup s.e2 hx.2.2 r⟩

/-! ### fields -/
structure FldOk (K : PySem.W.Frag) (C : Addr) (f : Str) : Prop where
  cls : Cls K C
  no : NoAttr K C f
def gFld (K : PySem.W.Frag) (f : Str) (x : D) (P : D → Prop) : Prop := match x with
  | .obj C gs => FldOk K C f ∧ (match gs.lookup f with
    | some d => P d
    | none => False)
  | .oobj C gs => FldOk K C f ∧ (match gs.lookup f with
    | some d => P d
    | none => False)
  | _ => False
def dFld (K : PySem.W.Frag) (f : Str) (ta : DE) : DE := fun δ P => ta δ fun x => gFld K f x.un P
theorem RepF.look {K : PySem.W.Frag} {H : Hp} {f : Str} {d : D} : ∀ {fs : List (Str × V)} {gs : List (Str × D)}, RepF K H fs gs → gs.lookup f = some d → ∃ v, fs.lookup f = some v ∧ Rep K H v d
  | _, _, .nil, e => by cases e
  | _, _, .cons (x := x) a t, e => by
    rw [List.lookup_cons] at e ⊢
    cases q : f == x with
    | true =>
      rw [q] at e
      have e2 := Option.some.inj e
      subst e2
      exact ⟨_, rfl, a⟩
    | false =>
      rw [q] at e
      exact t.look e
theorem OwnF.look {K : PySem.W.Frag} {H0 H : Hp} {f : Str} {d : D} : ∀ {p : List Addr} {fs : List (Str × V)} {gs : List (Str × D)}, OwnF K H0 H p fs gs → gs.lookup f = some d → ∃ v q, fs.lookup f = some v ∧ Own1 K H0 H q v d
  | _, _, _, .nil, e => by cases e
  | _, _, _, .cons (x := x) a t, e => by
    rw [List.lookup_cons] at e ⊢
    cases q : f == x with
    | true =>
      rw [q] at e
      have e2 := Option.some.inj e
      subst e2
      exact ⟨_, _, rfl, a⟩
    | false =>
      rw [q] at e
      exact t.look e
theorem pd_fld {f : Str} (ha : PEd X a ua ta) (hb : attributeBase a f X.env (eval a X.env) = eval a X.env := by rfl) : PEd X (.Attribute a f pos) (tFld X.K ua f) (dFld X.K f ta) := by
  obtain ⟨a1, a2⟩ := ha
  refine ⟨pe_fld a1 hb, fun δ P hT H0 H1 σ Q e env k => a2 δ _ hT H0 H1 σ _ e env fun v x G0 G hx s r => ?_⟩
  obtain ⟨p, o⟩ := r.un
  have hx : gFld X.K f x.un P := hx
  unfold gFld at hx
  split at hx
  · rename_i C gs ex
    rw [ex] at o
    obtain ⟨ok, hl⟩ := hx
    cases q : gs.lookup f with
    | none => rw [q] at hl; exact hl.elim
    | some d =>
      rw [q] at hl
      cases o.rep with
      | obj h1 h2 =>
        obtain ⟨u, h3, h4⟩ := h2.look q
        exact ⟨_, C, _, _, u, rfl, s.e2 _ _ h1, ok.cls, ok.no, h3, (k.after s).val s.e2 hl h4⟩
  · rename_i C gs ex
    rw [ex] at o
    obtain ⟨ok, hl⟩ := hx
    cases q : gs.lookup f with
    | none => rw [q] at hl; exact hl.elim
    | some d =>
      rw [q] at hl
      cases o with
      | one r => cases r with | leaf r => cases r
      | oobj h1 h2 =>
        obtain ⟨u, p2, h3, h4⟩ := h2.look q
        exact ⟨_, C, _, _, u, rfl, h1, ok.cls, ok.no, h3, k _ d G0 G hl s (Res.plain (.one h4))⟩
  · exact hx.elim
end
end J
/-! J6: statements -/
namespace J
open PySem L2

/-! ### stores -/
/-- what is stored: a plain value, or one that is handed over -/
def asgD (x : D) (P : D → Prop) : Prop := match x with
  | .mv d => P d
  | .olst _ => False
  | .oll _ => False
  | .oobj _ _ => False
  | x => P x
theorem asgD_inv {x : D} {P : D → Prop} (h : asgD x P) : (∃ d, x = .mv d ∧ P d) ∨ (x.plain = true ∧ P x) := by
  cases x <;> first | exact h.elim | exact .inl ⟨_, rfl, h⟩ | exact .inr ⟨rfl, h⟩
theorem Res.rep_of {K : PySem.W.Frag} {H1 G0 G : Hp} {v : V} {d : D} (r : Res K H1 G0 G v d) (e : d.plain = true) : Rep K G0 v d := by
  obtain ⟨p, o⟩ := r.un
  have eu : d.un = d := by cases d <;> first | rfl | cases e
  rw [eu] at o
  exact o.rep_of e
/-- the slots with what is held, all of it older than Hm -/
structure OkW (K : PySem.W.Frag) (B He H0 : Hp) (δ : List DV) (σ : L2.St) (H Hm : Hp) : Prop where
  st : Step He B H0 H
  own : ∃ f : Nat → List Addr, Holds K B H0 δ σ H f ∧ ∀ i, ∀ a ∈ f i, ∃ o, Hm a = some o
  len : δ.length = σ.length
  old : Same B Hm
section
variable {K : PySem.W.Frag} {B He H0 G0 H G Hm Hn : Hp} {δ : List DV} {σ : L2.St} {i : Nat} {v : V} {x d : D}
theorem Ok.w (h : Ok K B He H0 δ σ H) : OkW K B He H0 δ σ H H := by
  obtain ⟨f, hf⟩ := h.own
  exact ⟨h.st, ⟨f, hf, hf.there⟩, h.len, h.st.e1⟩
theorem OkW.ok (h : OkW K B He H0 δ σ H Hm) : Ok K B He H0 δ σ H := by
  obtain ⟨f, hf, _⟩ := h.own
  exact ⟨h.st, ⟨f, hf⟩, h.len⟩
theorem OkW.to (h : OkW K B He H0 δ σ H Hm) (s : Step H0 H G0 G) : OkW K B He G0 δ σ G Hm := by
  obtain ⟨f, h1, hm⟩ := h.own
  refine ⟨h.st.trans s, ⟨f, ⟨fun i d q => ?_, fun i => ⟨(h1.fresh i).1, fun a ha => ⟨?_, ((h1.fresh i).2 a ha).2⟩⟩, h1.apart, fun i a ha => ?_⟩, hm⟩, h.len, h.old⟩
  · obtain ⟨v, a, b⟩ := h1.is i d q
    exact ⟨v, a, b.to s.e0 s.e1⟩
  · cases q : G0 a with
    | none => rfl
    | some o =>
      obtain ⟨u, hu⟩ := h1.there i a ha
      have z := s.fr a o q ((h1.fresh i).2 a ha).1
      rw [hu] at z
      cases z
  · obtain ⟨u, hu⟩ := h1.there i a ha
    exact ⟨u, s.e1 a u hu⟩
/-- something held is stored; Hn: the heap in which it all stands -/
theorem OkW.putO {p : List Addr} (h : OkW K B He H0 δ σ H Hm) (o : Own K H0 H p v d) (fr : Fresh H0 Hm p) (ex : ∀ a ∈ p, ∃ o, Hn a = some o) (e : Same Hm Hn) : OkW K B He H0 (δ.set i (.tr d)) (σ.set i (some v)) H Hn := by
  obtain ⟨f, hf, hm⟩ := h.own
  have ap : ∀ j, j ≠ i → ∀ a ∈ f j, a ∉ p := fun j _ a ha hp => by
    obtain ⟨o, ho⟩ := hm j a ha
    rw [(fr.2 a hp).2] at ho
    cases ho
  have frB : Fresh H0 B p := ⟨fr.1, fun a ha => ⟨(fr.2 a ha).1, h.old.free (fr.2 a ha).2⟩⟩
  have q := h.ok.putG (i := i) hf o frB ap
  have hl := h.len
  refine ⟨q.st, ⟨setF f i p, ⟨fun j d' z => ?_, fun j => ?_, fun j k hjk a ha hb => ?_, fun j a ha => ?_⟩, fun j a ha => ?_⟩, q.len, h.old.trans e⟩
  · by_cases c : j = i
    · subst c
      have lt : j < δ.length := by
        have := (List.getElem?_eq_some_iff.mp z).1
        rwa [List.length_set] at this
      rw [List.getElem?_set_self lt] at z
      cases z
      refine ⟨v, List.getElem?_set_self (by rw [← hl]; exact lt), ?_⟩
      rw [setF_same]
      exact o
    · rw [List.getElem?_set_ne (Ne.symm c)] at z
      obtain ⟨u, a, b⟩ := hf.is j d' z
      refine ⟨u, by rw [List.getElem?_set_ne (Ne.symm c)]; exact a, ?_⟩
      rw [setF_ne c]
      exact b
  · by_cases c : j = i
    · subst c
      rw [setF_same]
      exact frB
    · rw [setF_ne c]
      exact hf.fresh j
  · by_cases c : j = i
    · subst c
      rw [setF_same] at ha
      rw [setF_ne (Ne.symm hjk)] at hb
      exact ap k (Ne.symm hjk) a hb ha
    · rw [setF_ne c] at ha
      by_cases c2 : k = i
      · subst c2
        rw [setF_same] at hb
        exact ap j c a ha hb
      · rw [setF_ne c2] at hb
        exact hf.apart j k hjk a ha hb
  · by_cases c : j = i
    · subst c
      rw [setF_same] at ha
      exact o.there a ha
    · rw [setF_ne c] at ha
      exact hf.there j a ha
  · by_cases c : j = i
    · subst c
      rw [setF_same] at ha
      exact ex a ha
    · rw [setF_ne c] at ha
      obtain ⟨o, ho⟩ := hm j a ha
      exact ⟨o, e a o ho⟩
/-- a result of an earlier moment (G0, G) is stored -/
theorem OkW.asg (h : OkW K B He H0 δ σ H Hm) (r : Res K Hm G0 G v x) (s : Step G0 G H0 H) (em : Same Hm G) {P : D → Prop} (ha : asgD x P) : ∃ d, P d ∧ OkW K B He H0 (δ.set i (.tr d)) (σ.set i (some v)) H G := by
  rcases asgD_inv ha with ⟨d, rfl, hp⟩ | ⟨hpl, hp⟩
  · obtain ⟨p, o, fr⟩ := r
    refine ⟨d, hp, h.putO (o.to s.e0 s.e1) ⟨fr.1, fun a ha => ⟨?_, (fr.2 a ha).2⟩⟩ o.there em⟩
    cases q : H0 a with
    | none => rfl
    | some w =>
      obtain ⟨u, hu⟩ := o.there a ha
      have z := s.fr a w q (fr.2 a ha).1
      rw [hu] at z
      cases z
  · exact ⟨x, hp, h.putO (p := []) (.one (.leaf ((r.rep_of hpl).to s.e0))) ⟨List.nodup_nil, fun a ha => absurd ha List.not_mem_nil⟩ (fun a ha => absurd ha List.not_mem_nil) em⟩
/-- one result is stored -/
theorem Ok.asg (h : Ok K B He H0 δ σ H) (s : Step H0 H G0 G) (r : Res K H G0 G v x) {P : D → Prop} (ha : asgD x P) : ∃ d, P d ∧ Ok K B He G0 (δ.set i (.tr d)) (σ.set i (some v)) G := by
  obtain ⟨d, hp, q⟩ := (h.w.to s).asg (i := i) r (Step.refl s.e2) s.e1 ha
  exact ⟨d, hp, q.ok⟩
end

/-! ### blocks -/
def dNx : DS := fun E δ => E.nx δ
def dSeq (t u : DS) : DS := fun E δ => t { E with nx := u E } δ
section
variable {X : Cx} {B He : Hp} {st : Stmt} {rest : List Stmt} {T U : DS} {pos : Pos} {e : Expr} {ta : DE}
theorem sd_nil : PSsd X B He [] dNx := ⟨tNext, pss_nil, fun E δ h D H0 σ H L ok => L.nx δ H0 σ H h ok (Same.refl _)⟩
theorem sd_cons (h1 : PSd X B He st T) (h2 : PSsd X B He rest U) : PSsd X B He (st :: rest) (dSeq T U) := by
  obtain ⟨t, a1, a2⟩ := h1.ex
  obtain ⟨u, b1, b2⟩ := h2.ex
  refine ⟨tSeq t u, pss_cons a1 b1, fun E δ h D H0 σ H L ok => ?_⟩
  exact a2 _ δ h _ H0 σ H ⟨fun δ' G0 σ' G hu ok' s => b2 E δ' hu D G0 σ' G (L.mono s) ok', L.rt, L.bk, L.ct⟩ ok
theorem sd_one (h1 : PSd X B He st T) : PSsd X B He [st] T := by
  obtain ⟨t, a1, a2⟩ := h1.ex
  exact ⟨t, pss_one a1, a2⟩
theorem sd_pass : PSd X B He (.Pass pos) dNx := ⟨tNext, ps_pass, fun E δ h D H0 σ H L ok => L.nx δ H0 σ H h ok (Same.refl _)⟩
theorem sd_never : PSd X B He st (fun _ _ => False) := ⟨tNever, ps_never, fun E δ h D H0 σ H L ok => h.elim⟩
/-- x = e -/
def dSet (i : Nat) (ta : DE) : DS := fun E δ => ta δ fun x => asgD x fun d => E.nx (δ.set i (.tr d))
theorem sd_set_of {i : Nat} (hp : ∀ te, PE X e te → PS X st (tAsg te (gName i))) (ha : PEd X e ua ta) : PSd X B He st (dSet i ta) := by
  obtain ⟨a1, a2⟩ := ha
  refine ⟨_, hp _ a1, fun E δ h D H0 σ H L ok => a2 δ _ h H0 H σ _ ok.st.e2 ok.env fun v x G0 G hx s r => ?_⟩
  obtain ⟨d, hd, ok'⟩ := ok.asg (i := i) s r hx
  exact L.nx _ G0 _ G hd ok' s.e0
theorem sd_set {i : Nat} {x : Str} {pos' : Pos} (nd : X.N.Nodup) (ha : PEd X e ua ta) (hi : X.N[i]? = some x := by rfl) (hx : Loc X.env.scope x := by first | exact .inl rfl | exact .inr rfl) (hs : swapsWith e (some (.Name x pos')) pos.line X.env = pure false := by rfl)
    (hf : X.fn x = true ∨ X.env.scope.names.lookup x = some .local := by first | exact .inl rfl | exact .inr rfl | assumption) : PSd X B He (.Assign [.Name x pos'] e pos) (dSet i ta) :=
  sd_set_of (fun te h => ps_set nd hi hx h hs hf) ha
/-- e alone -/
def dDrop (ta : DE) : DS := fun E δ => ta δ fun _ => E.nx δ
theorem sd_expr (ha : PEd X e ua ta) (hs : swapsWith e none pos.line X.env = pure false := by rfl) : PSd X B He (.Expr e pos) (dDrop ta) := by
  obtain ⟨a1, a2⟩ := ha
  exact ⟨_, ps_expr a1 hs, fun E δ h D H0 σ H L ok => a2 δ _ h H0 H σ _ ok.st.e2 ok.env fun v x G0 G hx s r => L.nx δ G0 σ G hx (ok.to s) s.e0⟩
/-- if -/
def dIfS (t : DT) (T U : DS) : DS := fun E δ => t δ fun b => match b with
  | true => T E δ
  | false => U E δ
theorem sd_if {c : Expr} {a b : List Stmt} {t : DT} (hc : PTd X c ut t) (h1 : PSsd X B He a T) (h2 : PSsd X B He b U) : PSd X B He (.If c a b pos) (dIfS t T U) := by
  obtain ⟨c1, c2⟩ := hc
  obtain ⟨t1, a1, a2⟩ := h1.ex
  obtain ⟨t2, b1, b2⟩ := h2.ex
  refine ⟨_, ps_if c1 a1 b1, fun E δ h D H0 σ H L ok => c2 δ _ h H0 H σ _ ok.st.e2 ok.env fun b G hb s => ?_⟩
  have ok2 := ok.to (G0 := H0) (G := G) ⟨s, Same.refl _, ok.st.e2.trans s, fun a o q n => by rw [n] at q; cases q⟩
  cases b with
  | true => rw [if_pos rfl]; exact a2 E δ hb D H0 σ G L ok2
  | false => rw [if_neg Bool.false_ne_true]; exact b2 E δ hb D H0 σ G L ok2

/-! ### return -/
def DV.fz : DV → DV
  | .no => .no
  | .tr d => .tr (frz d)
theorem listMem_join {f : Nat → List Addr} : ∀ n : Nat, ∀ a, a ∈ ((List.range n).map f).flatten ↔ ∃ i, i < n ∧ a ∈ f i := fun n a => by
  rw [List.mem_flatten]
  constructor
  · rintro ⟨l, hl, ha⟩
    obtain ⟨i, hi, rfl⟩ := List.mem_map.mp hl
    exact ⟨i, List.mem_range.mp hi, ha⟩
  · rintro ⟨i, hi, ha⟩
    exact ⟨f i, List.mem_map.mpr ⟨i, List.mem_range.mpr hi, rfl⟩, ha⟩
theorem frz_plain {K : PySem.W.Frag} {H0 H : Hp} {p : List Addr} {v : V} {d : D} (h : Own K H0 H p v d) : (frz d).plain = true := by
  cases h with
  | one r => cases r with
    | leaf r => cases r <;> rfl
    | olst _ _ => rfl
    | oll _ _ => rfl
  | oobj _ _ => rfl
/-- all that is held is kept as it is -/
theorem Ok.fz {K : PySem.W.Frag} {B He H0 H : Hp} {δ : List DV} {σ : L2.St} (h : Ok K B He H0 δ σ H) : ∃ G0, Ok K B He G0 (δ.map DV.fz) σ H ∧ Same H0 G0 := by
  obtain ⟨f, hf⟩ := h.own
  refine ⟨more H0 H ((List.range δ.length).map f).flatten, ⟨⟨h.st.e1, h.st.e0.trans (more_same h.st.e2), more_sub h.st.e2, fun a o q n => ?_⟩, ⟨fun _ => [], fun i d q => ?_, fun i => ⟨List.nodup_nil, fun a ha => absurd ha List.not_mem_nil⟩, fun i j _ a ha => absurd ha List.not_mem_nil, fun i a ha => absurd ha List.not_mem_nil⟩, by rw [List.length_map]; exact h.len⟩, more_same h.st.e2⟩
  · by_cases c : a ∈ ((List.range δ.length).map f).flatten
    · obtain ⟨i, _, hi⟩ := (listMem_join _ a).mp c
      exact ((hf.fresh i).2 a hi).2
    · rw [more_out c] at q
      exact h.st.fr a o q n
  · rw [List.getElem?_map] at q
    cases e : δ[i]? with
    | none => rw [e] at q; cases q
    | some x =>
      rw [e] at q
      cases x with
      | no => cases q
      | tr d' =>
        have e2 : frz d' = d := by
          have z : DV.tr (frz d') = DV.tr d := Option.some.inj q
          injection z
        subst e2
        obtain ⟨v, a, b⟩ := hf.is i d' e
        refine ⟨v, a, .one (.leaf (b.frz h.st.e2 (more_same h.st.e2) fun y hy o ho => ?_))⟩
        have hi : i < δ.length := (List.getElem?_eq_some_iff.mp e).1
        rw [more_in ((listMem_join _ y).mpr ⟨i, hi, hy⟩)]
        exact ho
/-- return e: what is held here is held no more -/
def dRet (ta : DE) : DS := fun E δ => ta (δ.map DV.fz) E.rt
theorem sd_ret (ha : PEd X e ua ta) : PSd X B He (.Return (some e) pos) (dRet ta) := by
  obtain ⟨a1, a2⟩ := ha
  refine ⟨_, ps_ret a1, fun E δ h D H0 σ H L ok => ?_⟩
  obtain ⟨G0, ok2, _⟩ := ok.fz
  exact a2 _ _ h G0 H σ _ ok2.st.e2 ok2.env fun v x I0 I hx s r => L.rt x v I0 I hx (ok2.st.trans s) (r.back ok2.st.e1)
theorem sd_retN : PSd X B He (.Return none pos) (fun E _ => E.rt .non) := ⟨_, ps_retN, fun E δ h D H0 σ H L ok => L.rt .non .non H0 H h ok.st (Res.rep .non)⟩
/-- return x, what x holds handed over -/
def dRetM (i : Nat) : DS := fun E δ => match δ[i]? with
  | some (.tr d) => E.rt (.mv d)
  | _ => False
theorem sd_retM {i : Nat} (h : PE X e (tVar i)) : PSd X B He (.Return (some e) pos) (dRetM i) := by
  refine ⟨_, ps_ret h, fun E δ h D H0 σ H L ok => ?_⟩
  unfold dRetM at h
  obtain ⟨f, hf⟩ := ok.own
  split at h
  · rename_i d e
    obtain ⟨v, a, b⟩ := hf.is i d e
    exact ⟨v, a, L.rt (.mv d) v H0 H h ok.st ⟨_, b, hf.fresh i⟩⟩
  · exact h.elim

/-! ### changes of what is held -/
theorem same_out {H : Hp} {a : Addr} {o : HO} {p : List Addr} {H' : Hp} (e : ∀ b, b ≠ a → H b = H' b) (h : a ∉ p) : KeepO p H H' := fun b hb o ho => by
  rw [← e b (fun z => h (by rw [← z]; exact hb))]
  exact ho
/-- the object at a, held in slot i, is written -/
theorem Holds.write {K : PySem.W.Frag} {B He H0 H : Hp} {δ : List DV} {σ : L2.St} {f : Nat → List Addr} {i : Nat} {a : Addr} {o : HO} {d : D} {v : V} (h : Ok K B He H0 δ σ H) (hf : Holds K B H0 δ σ H f) (ha : a ∈ f i) (hv : σ[i]? = some (some v)) (hi : i < δ.length)
    (r : Own K H0 (upd H a o) (f i) v d) : Ok K B He H0 (δ.set i (.tr d)) σ (upd H a o) := by
  have fr := (hf.fresh i).2 a ha
  have hk : ∀ j, j ≠ i → KeepO (f j) H (upd H a o) := fun j c b hb u hu => by
    rw [upd_ne fun z => hf.apart j i c b hb (by rw [z]; exact ha)]
    exact hu
  refine ⟨⟨fun b u hu => ?_, h.st.e0, fun b u hu => ?_, h.st.fr⟩, ⟨f, fun j d' q => ?_, hf.fresh, hf.apart, fun j b hb => ?_⟩, by rw [List.length_set]; exact h.len⟩
  · rw [upd_ne fun z => by rw [z, fr.2] at hu; cases hu]
    exact h.st.e1 b u hu
  · rw [upd_ne fun z => by rw [z, fr.1] at hu; cases hu]
    exact h.st.e2 b u hu
  · by_cases c : j = i
    · subst c
      rw [List.getElem?_set_self hi] at q
      cases q
      exact ⟨v, hv, r⟩
    · rw [List.getElem?_set_ne (Ne.symm c)] at q
      obtain ⟨u, x, y⟩ := hf.is j d' q
      exact ⟨u, x, y.mono (Same.refl _) (hk j c)⟩
  · by_cases c : b = a
    · rw [c]
      exact ⟨o, upd_same⟩
    · rw [upd_ne c]
      exact hf.there j b hb
theorem tyL {K : PySem.W.Frag} {H : Hp} {a : Addr} {vs : List V} (h : H a = some (.lst vs)) : tyV K "list" (.ref a) H := .inl ⟨rfl, _, .of h⟩
theorem sz6 {n : Nat} (h : n ≤ 100000) : n < sizeLine := Nat.lt_of_le_of_lt h (by decide)
theorem Own.olst {K : PySem.W.Frag} {H0 H1 : Hp} {p : List Addr} {v : V} {ds : List D} (h : Own K H0 H1 p v (.olst ds)) : ∃ a vs, p = [a] ∧ v = .ref a ∧ H1 a = some (.lst vs) ∧ RepL K H0 vs ds := by
  cases h with
  | one r =>
    cases r with
    | leaf r => cases r
    | olst h1 h2 => exact ⟨_, _, rfl, rfl, h1, h2⟩
/-- e.append(a), e the i-th slot -/
def dApp (i : Nat) (ta : DE) : DS := fun E δ => match δ[i]? with
  | some (.tr (.olst ds)) => ds.length ≤ 100000 ∧ ta δ fun x => x.plain = true ∧ E.nx (δ.set i (.tr (.olst (ds ++ [x]))))
  | _ => False
theorem dApp_inv {i : Nat} {ta : DE} {E : EndsD} {δ : List DV} (h : dApp i ta E δ) : ∃ ds, δ[i]? = some (.tr (.olst ds)) ∧ ds.length ≤ 100000 ∧ ta δ fun x => x.plain = true ∧ E.nx (δ.set i (.tr (.olst (ds ++ [x])))) := by
  unfold dApp at h
  split at h
  · rename_i ds q
    exact ⟨ds, q, h.1, h.2⟩
  · exact h.elim
theorem lt_of_get {α : Type} {l : List α} {i : Nat} {x : α} (h : l[i]? = some x) : i < l.length := (List.getElem?_eq_some_iff.mp h).1
theorem sd_app {i : Nat} {o a : Expr} {apos cpos : Pos} (ho : PE X o (tVar i)) (ha : PEd X a ua ta) (hbase : attributeBase o "append" X.env (eval o X.env) = eval o X.env := by rfl)
    (hfew : ((backTo cpos (starEach (a :: []) X.env)).all (fun x => !x.1) && (backToKw cpos (keywordEach [] X.env)).all (fun x => x.1.isSome)
      && decide ((a :: []).length + ([] : List Keyword).length + (if ([] : List Keyword).isEmpty then 0 else 1) < 30)) = true := by rfl)
    (hline : (apos.endLine == cpos.line) = true := by rfl) (hs : starEach (a :: []) X.env = (false, eval a X.env) :: starEach [] X.env := by rfl) (hplain : (backTo cpos (starEach [] X.env)).any (·.1) = false := by rfl)
    (hsw : swapsWith (.Call (.Attribute o "append" apos) [a] [] cpos) none pos.line X.env = pure false := by rfl) : PSd X B He (.Expr (.Call (.Attribute o "append" apos) [a] [] cpos) pos) (dApp i ta) := by
  obtain ⟨a1, a2⟩ := ha
  refine ⟨_, ps_expr (pe_bm PySem.F.plainAttrs_list PySem.F.slot_list_append PySem.F.type_list_append mt_append ho (pa_cons a1 pa_nil hs) hbase hfew hline hs hplain) hsw, fun E δ h D H0 σ H L ok => ?_⟩
  obtain ⟨ds, hq, hz, hT⟩ := dApp_inv h
  obtain ⟨f, hf⟩ := ok.own
  obtain ⟨v, hv, o1⟩ := hf.is i _ hq
  obtain ⟨l, vs, ef, rfl, hl, hr⟩ := o1.olst
  refine ⟨.ref l, hv, tyL hl, a2 δ _ hT H0 H σ _ ok.st.e2 ok.env fun w x G0 G hx s r => ?_⟩
  have ok2 := ok.to s
  obtain ⟨f2, hf2⟩ := ok2.own
  obtain ⟨v2, hv2, o2⟩ := hf2.is i _ hq
  rw [hv] at hv2
  have ev : V.ref l = v2 := Option.some.inj (Option.some.inj hv2)
  subst ev
  obtain ⟨l2, ws, ef2, el, hl2, hr2⟩ := o2.olst
  have e3 : l = l2 := V.ref.inj el
  subst e3
  refine ⟨l, ws, w, rfl, rfl, hl2, sz6 (by rw [hr2.len]; exact hz), L.nx _ G0 _ _ hx.2 ?_ s.e0⟩
  refine Holds.write ok2 hf2 (by rw [ef2]; exact List.mem_cons_self) hv (lt_of_get hq) ?_
  rw [ef2]
  exact .one (.olst upd_same (hr2.app (.cons (r.rep_of hx.1) .nil)))
/-- e.extend(a): a a list that the program made -/
def dExt (i : Nat) (ta : DE) : DS := fun E δ => match δ[i]? with
  | some (.tr (.olst ds)) => ta δ fun x => match x.un.list with
    | some es => ds.length + es.length ≤ 100000 ∧ E.nx (δ.set i (.tr (.olst (ds ++ es))))
    | none => False
  | _ => False
theorem dExt_inv {i : Nat} {ta : DE} {E : EndsD} {δ : List DV} (h : dExt i ta E δ) : ∃ ds, δ[i]? = some (.tr (.olst ds)) ∧ ta δ fun x => match x.un.list with
    | some es => ds.length + es.length ≤ 100000 ∧ E.nx (δ.set i (.tr (.olst (ds ++ es))))
    | none => False := by
  unfold dExt at h
  split at h
  · rename_i ds q
    exact ⟨ds, q, h⟩
  · exact h.elim
theorem sd_ext {i : Nat} {o a : Expr} {apos cpos : Pos} (ho : PE X o (tVar i)) (ha : PEd X a ua ta) (hbase : attributeBase o "extend" X.env (eval o X.env) = eval o X.env := by rfl)
    (hfew : ((backTo cpos (starEach (a :: []) X.env)).all (fun x => !x.1) && (backToKw cpos (keywordEach [] X.env)).all (fun x => x.1.isSome)
      && decide ((a :: []).length + ([] : List Keyword).length + (if ([] : List Keyword).isEmpty then 0 else 1) < 30)) = true := by rfl)
    (hline : (apos.endLine == cpos.line) = true := by rfl) (hs : starEach (a :: []) X.env = (false, eval a X.env) :: starEach [] X.env := by rfl) (hplain : (backTo cpos (starEach [] X.env)).any (·.1) = false := by rfl)
    (hsw : swapsWith (.Call (.Attribute o "extend" apos) [a] [] cpos) none pos.line X.env = pure false := by rfl) : PSd X B He (.Expr (.Call (.Attribute o "extend" apos) [a] [] cpos) pos) (dExt i ta) := by
  obtain ⟨a1, a2⟩ := ha
  refine ⟨_, ps_expr (pe_bm PySem.F.plainAttrs_list PySem.F.slot_list_extend PySem.F.type_list_extend mt_extend ho (pa_cons a1 pa_nil hs) hbase hfew hline hs hplain) hsw, fun E δ h D H0 σ H L ok => ?_⟩
  obtain ⟨ds, hq, hT⟩ := dExt_inv h
  obtain ⟨f, hf⟩ := ok.own
  obtain ⟨v, hv, o1⟩ := hf.is i _ hq
  obtain ⟨l, vs, ef, rfl, hl, hr⟩ := o1.olst
  refine ⟨.ref l, hv, tyL hl, a2 δ _ hT H0 H σ _ ok.st.e2 ok.env fun w x G0 G hx s r => ?_⟩
  have ok2 := ok.to s
  obtain ⟨f2, hf2⟩ := ok2.own
  obtain ⟨v2, hv2, o2⟩ := hf2.is i _ hq
  rw [hv] at hv2
  have ev : V.ref l = v2 := Option.some.inj (Option.some.inj hv2)
  subst ev
  obtain ⟨l2, ws, ef2, el, hl2, hr2⟩ := o2.olst
  have e3 : l = l2 := V.ref.inj el
  subst e3
  obtain ⟨q, ox⟩ := r.un
  dsimp only at hx
  cases eq : x.un.list with
  | none => rw [eq] at hx; exact hx.elim
  | some es =>
    rw [eq] at hx
    obtain ⟨b, us, rfl, hb, hrb⟩ := ox.list s.e2 eq
    refine ⟨l, b, ws, us, rfl, rfl, hl2, hb, sz5 (by rw [hr2.len, hrb.len]; exact hx.1), L.nx _ G0 _ _ hx.2 ?_ s.e0⟩
    refine Holds.write ok2 hf2 (by rw [ef2]; exact List.mem_cons_self) hv (lt_of_get hq) ?_
    rw [ef2]
    exact .one (.olst upd_same (hr2.app hrb))
end
end J
/-! J7: loops, stores of several, calls, comprehensions, a def -/
namespace J
open PySem L2

/-! ### what is walked -/
structure WalkD (K : PySem.W.Frag) (G0 : Hp) (J : It) (ds : List D) : Prop where
  go : ∀ i H, Same G0 H → i < ds.length → J.go i H
  stop : ∀ H, Same G0 H → J.stop ds.length H
  yld : ∀ i H x H' d, Same G0 H → J.yld i H x H' → ds[i]? = some d → ∀ I0, Same G0 I0 → Same I0 H → ∃ I1, Step I0 H I1 H' ∧ Rep K I1 x d
abbrev DI : Type := List DV → (List D → Prop) → Prop
def SndI (K : PySem.W.Frag) (wi : TI) (T : DI) : Prop := ∀ δ P, T δ P → ∀ H0 H1 σ (R : It → Hp → Prop), Same H0 H1 → EnvE K H0 H1 δ σ → (∀ J ds G0 G, P ds → Step H0 H1 G0 G → WalkD K G0 J ds → R J G) → wi σ H1 R
structure PId (X : Cx) (tg it : Expr) (wi : TI) (T : DI) : Prop where
  p : PI X tg it wi
  s : SndI X.K wi T
section
variable {K : PySem.W.Frag} {G0 : Hp}
theorem walk_l {a : Addr} {vs : List V} {ds : List D} (h : SqL K G0 a vs) (r : RepL K G0 vs ds) : WalkD K G0 (Itl K a) ds where
  go := fun i H e hi => by
    obtain ⟨v, hv, _⟩ := r.at (List.getElem?_eq_getElem hi)
    exact ⟨vs, v, e.seq h, hv⟩
  stop := fun H e => ⟨vs, e.seq h, by rw [r.len]; exact Nat.le_refl _⟩
  yld := fun i H x H' d e y hd I0 e0 e1 => by
    obtain ⟨eH, y⟩ := y
    subst eH
    obtain ⟨v, hv, rv⟩ := r.at hd
    have ev : v = x := Option.some.inj (hv.symm.trans (y vs (e.seq h)))
    subst ev
    exact ⟨I0, Step.refl e1, rv.to e0⟩
theorem walk_r {lo : Int} {n : Nat} : WalkD K G0 (Itr lo n) ((List.range n).map fun (i : Nat) => D.int (lo + (i : Int))) where
  go := fun i H e hi => by
    rw [List.length_map, List.length_range] at hi
    exact hi
  stop := fun H e => by
    rw [List.length_map, List.length_range]
    exact Nat.le_refl _
  yld := fun i H x H' d e y hd I0 e0 e1 => by
    obtain ⟨eH, ex⟩ := y
    subst eH
    subst ex
    have ed : d = .int (lo + (i : Int)) := by
      have lt : i < n := by
        have := lt_of_get hd
        rwa [List.length_map, List.length_range] at this
      rw [List.getElem?_map, List.getElem?_range lt] at hd
      exact (Option.some.inj hd).symm
    subst ed
    exact ⟨I0, Step.refl e1, .int _⟩
theorem walk_c {lo c : Int} {n : Nat} : WalkD K G0 (Itc lo c n) ((List.range n).map fun (i : Nat) => D.int (lo + (i : Int) * c)) where
  go := fun i H e hi => by
    rw [List.length_map, List.length_range] at hi
    exact hi
  stop := fun H e => by
    rw [List.length_map, List.length_range]
    exact Nat.le_refl _
  yld := fun i H x H' d e y hd I0 e0 e1 => by
    obtain ⟨eH, ex⟩ := y
    subst eH
    subst ex
    have ed : d = .int (lo + (i : Int) * c) := by
      have lt : i < n := by
        have := lt_of_get hd
        rwa [List.length_map, List.length_range] at this
      rw [List.getElem?_map, List.getElem?_range lt] at hd
      exact (Option.some.inj hd).symm
    subst ed
    exact ⟨I0, Step.refl e1, .int _⟩
def enumD (ds : List D) : List D := ds.zipIdx.map fun p => D.tup [.int (p.2 : Int), p.1]
theorem walk_e {a : Addr} {vs : List V} {ds : List D} (h : SqL K G0 a vs) (r : RepL K G0 vs ds) : WalkD K G0 (Ite K a) (enumD ds) where
  go := fun i H e hi => by
    unfold enumD at hi
    rw [List.length_map, List.length_zipIdx] at hi
    obtain ⟨v, hv, _⟩ := r.at (List.getElem?_eq_getElem hi)
    exact ⟨vs, v, e.seq h, hv⟩
  stop := fun H e => ⟨vs, e.seq h, by unfold enumD; rw [List.length_map, List.length_zipIdx, r.len]; exact Nat.le_refl _⟩
  yld := fun i H x H' d e y hd I0 e0 e1 => by
    obtain ⟨T, w, ex, nT, eH, y⟩ := y
    subst ex
    subst eH
    unfold enumD at hd
    rw [List.getElem?_map, List.getElem?_zipIdx] at hd
    cases q : ds[i]? with
    | none => rw [q] at hd; cases hd
    | some d' =>
      rw [q] at hd
      have ed : d = .tup [.int (i : Int), d'] := by
        have z := (Option.some.inj hd).symm
        rw [z]
        simp
      subst ed
      obtain ⟨v, hv, rv⟩ := r.at q
      have ev : v = w := Option.some.inj (hv.symm.trans (y vs (e.seq h)))
      subst ev
      refine ⟨upd I0 T (.tup [.int (i : Int), v]), Step.new e1 nT, .tup upd_same (.cons (.int _) (.cons ((rv.to e0).to (same_new (e1.free nT))) .nil))⟩
end
/-- the items of what doesn't change -/
def D.pit : D → Option (List D)
  | .lst ds => some ds
  | .scr ns => some (ns.map .int)
  | _ => none
theorem Own.pit {K : PySem.W.Frag} {H0 H1 : Hp} {p : List Addr} {v : V} {d : D} {ds : List D} (h : Own K H0 H1 p v d) (q : d.pit = some ds) : ∃ a vs, v = .ref a ∧ SqL K H0 a vs ∧ RepL K H0 vs ds := by
  cases d with
  | lst es =>
    cases q
    cases h.rep with
    | lst h1 h2 => exact ⟨_, _, rfl, .of h1, h2⟩
  | scr ns =>
    cases q
    cases h.rep with
    | scr h1 => exact ⟨_, _, rfl, h1, RepL.ofInts ns⟩
  | _ => cases q
def dIl (ta : DE) : DI := fun δ P => ta δ fun x => match x.un.pit with
  | some ds => P ds
  | none => False
section
variable {X : Cx} {tg e a b : Expr} {es : List Expr} {ta tb : DE} {ua ub : TE} {ur : TA} {tr : DA} {pos : Pos}
theorem pi_l (ha : PEd X e ua ta) : PId X tg e (iList X.K ua) (dIl ta) := by
  obtain ⟨a1, a2⟩ := ha
  refine ⟨pi_list a1, fun δ P hT H0 H1 σ R e env k => a2 δ _ hT H0 H1 σ _ e env fun v x G0 G hx s r => ?_⟩
  obtain ⟨p, o⟩ := r.un
  dsimp only at hx
  cases q : x.un.pit with
  | none => rw [q] at hx; exact hx.elim
  | some ds =>
    rw [q] at hx
    obtain ⟨a, vs, rfl, h1, h2⟩ := o.pit q
    exact ⟨a, rfl, ⟨vs, s.e2.seq h1⟩, k _ ds G0 G hx s (walk_l h1 h2)⟩
def rng (lo : Int) (n : Nat) : List D := (List.range n).map fun (i : Nat) => D.int (lo + (i : Int))
def dIr1 (ta : DA) : DI := fun δ P => ta δ fun ds => match ds with
  | [.int n] => n ≤ 1000000 ∧ -1000000 ≤ n ∧ P (rng 0 n.toNat)
  | _ => False
def dIr2 (ta : DA) : DI := fun δ P => ta δ fun ds => match ds with
  | [.int m, .int n] => (n ≤ 1000000 ∧ -1000000 ≤ n) ∧ (m ≤ 1000000 ∧ -1000000 ≤ m) ∧ P (rng m (n - m).toNat)
  | _ => False
theorem pi_r1 {p : Pos} (hm : X.mg "range" = none) (ha : PAd X [a] ur tr) (hg : Gl X "range" := by rfl) (hs : starEach [a] X.env = [(false, eval a X.env)] := by rfl) : PId X tg (.Call (.Name "range" p) [a] [] pos) (iRng1 ur) (dIr1 tr) := by
  obtain ⟨a1, a2⟩ := ha
  refine ⟨pi_range1 hg hm a1 hs, fun δ P hT H0 H1 σ R e env k => a2 δ _ hT H0 H1 σ _ e env fun vs ds G0 G hx s al => ?_⟩
  dsimp only at hx
  split at hx
  · obtain ⟨v, p, rfl, o⟩ := al1 al
    exact ⟨_, by rw [o.int], by omega, by omega, k _ _ G0 G hx.2.2 s walk_r⟩
  · exact hx.elim
theorem pi_r2 {p : Pos} (hm : X.mg "range" = none) (ha : PAd X [a, b] ur tr) (hg : Gl X "range" := by rfl) (hs : starEach [a, b] X.env = [(false, eval a X.env), (false, eval b X.env)] := by rfl) (hs2 : starEach [b] X.env = [(false, eval b X.env)] := by rfl) : PId X tg (.Call (.Name "range" p) [a, b] [] pos) (iRng2 ur) (dIr2 tr) := by
  obtain ⟨a1, a2⟩ := ha
  refine ⟨pi_range2 hg hm a1 hs hs2, fun δ P hT H0 H1 σ R e env k => a2 δ _ hT H0 H1 σ _ e env fun vs ds G0 G hx s al => ?_⟩
  dsimp only at hx
  split at hx
  · obtain ⟨v, p, w, q, rfl, o1, o2⟩ := al2 al
    exact ⟨_, _, by rw [o1.int, o2.int], by omega, k _ _ G0 G hx.2.2 s walk_r⟩
  · exact hx.elim
def dIe (ta : DA) : DI := fun δ P => ta δ fun ds => match ds with
  | [x] => (match x.pit with
    | some ds => P (enumD ds)
    | none => False)
  | _ => False
theorem pi_e {p tpos : Pos} {elts : List Expr} {kk : Nat} (hm : X.mg "enumerate" = none) (ha : PAd X [a] ur tr) (hg : Gl X "enumerate" := by rfl) (hs : starEach [a] X.env = [(false, eval a X.env)] := by rfl) : PId X (.Tuple elts kk tpos) (.Call (.Name "enumerate" p) [a] [] pos) (iEnum X.K ur) (dIe tr) := by
  obtain ⟨a1, a2⟩ := ha
  refine ⟨pi_enum hg hm a1 hs, fun δ P hT H0 H1 σ R e env k => a2 δ _ hT H0 H1 σ _ e env fun vs ds G0 G hx s al => ?_⟩
  dsimp only at hx
  split at hx
  · rename_i x
    obtain ⟨v, p, rfl, o⟩ := al1 al
    cases q : x.pit with
    | none => rw [q] at hx; exact hx.elim
    | some ds =>
      rw [q] at hx
      obtain ⟨a, vs, rfl, h1, h2⟩ := o.pit q
      exact ⟨a, vs, rfl, s.e2.seq h1, k _ _ G0 G hx s (walk_e h1 h2)⟩
  · exact hx.elim
/-- reversed(range(n)), reversed(range(m, n)) -/
def dIv1 (ta : DE) : DI := fun δ P => ta δ fun x => asI x fun n => n ≤ 1000000 ∧ -1000000 ≤ n ∧ P ((List.range n.toNat).map fun (i : Nat) => D.int (((n.toNat : Nat) : Int) - 1 + (i : Int) * (-1)))
theorem pi_v1 {p p2 pos2 : Pos} (hm : X.mg "reversed" = none) (hm2 : X.mg "range" = none) (ha : PEd X a ua ta) (hg : Gl X "reversed" := by rfl) (hg2 : Gl X "range" := by rfl) (na : starEach [a] X.env = (false, eval a X.env) :: starEach [] X.env := by rfl)
    (hs : starEach [.Call (.Name "range" p2) [a] [] pos2] X.env = (false, eval (.Call (.Name "range" p2) [a] [] pos2) X.env) :: starEach [] X.env := by rfl) :
    PId X tg (.Call (.Name "reversed" p) [.Call (.Name "range" p2) [a] [] pos2] [] pos) (iRevR (tRg1 ua)) (dIv1 ta) := by
  obtain ⟨a1, a2⟩ := ha
  refine ⟨pi_revR hg hm (prg_1 hg2 hm2 a1 na) hs, fun δ P hT H0 H1 σ R e env k => a2 δ _ hT H0 H1 σ _ e env fun v x G0 G hx s r => ?_⟩
  obtain ⟨n, rfl, hp⟩ := asI_inv hx
  refine ⟨n, res_int r, by omega, by omega, by omega, by omega, k _ _ G0 G hp.2.2 s ?_⟩
  have e1 : (0 : Int) + (((n - 0).toNat : Nat) : Int) - 1 = ((n.toNat : Nat) : Int) - 1 := by rw [Int.sub_zero, Int.zero_add]
  have e2 : (n - 0).toNat = n.toNat := by rw [Int.sub_zero]
  rw [e1, e2]
  exact walk_c
end

/-! ### targets -/
abbrev DG : Type := D → List DV → (List DV → Prop) → Prop
structure PGd (X : Cx) (B He : Hp) (tg : Expr) (t : DG) : Prop where
  ex : ∃ g, PG X tg g ∧ ∀ d δ P, t d δ P → ∀ H0 σ H v, Ok X.K B He H0 δ σ H → Rep X.K H0 v d → ∀ Q : L2.St → Hp → Prop, (∀ δ' σ', P δ' → Ok X.K B He H0 δ' σ' H → Q σ' H) → g v σ H Q
def dgN (i : Nat) : DG := fun d δ P => P (δ.set i (.tr d))
def putAll : List Nat → List D → List DV → (List DV → Prop) → Prop
  | [], [], δ, P => P δ
  | i :: is, d :: ds, δ, P => putAll is ds (δ.set i (.tr d)) P
  | _, _, _, _ => False
def gNs : List Nat → TGs
  | [] => gNil
  | i :: is => gCons (gName i) (gNs is)
def dgT (is : List Nat) : DG := fun d δ P => match d with
  | .tup ds => putAll is ds δ P
  | _ => False
theorem putAll_len : ∀ {is : List Nat} {ds : List D} {δ : List DV} {P : List DV → Prop}, putAll is ds δ P → is.length = ds.length
  | [], [], _, _, _ => rfl
  | _ :: is, _ :: ds, δ, P, h => congrArg (· + 1) (putAll_len (is := is) (ds := ds) h)
  | [], _ :: _, _, _, h => h.elim
  | _ :: _, [], _, _, h => h.elim
section
variable {X : Cx} {B He : Hp} {pos : Pos}
theorem gNs_run {K : PySem.W.Frag} : ∀ {is : List Nat} {ds : List D} {vs : List V} {δ : List DV} {P : List DV → Prop}, putAll is ds δ P → ∀ H0 σ H, Ok K B He H0 δ σ H → RepL K H0 vs ds → ∀ Q : L2.St → Hp → Prop, (∀ δ' σ', P δ' → Ok K B He H0 δ' σ' H → Q σ' H) → gNs is vs σ H Q
  | [], [], _, δ, P, h, H0, σ, H, ok, r, Q, k => by
    cases r
    exact ⟨rfl, k δ σ h ok⟩
  | i :: is, d :: ds, _, δ, P, h, H0, σ, H, ok, r, Q, k => by
    cases r with
    | cons a t => exact ⟨_, _, rfl, gNs_run (is := is) (ds := ds) h H0 _ H (ok.put a) t Q k⟩
  | [], _ :: _, _, _, _, h, _, _, _, _, _, _, _ => h.elim
  | _ :: _, [], _, _, _, h, _, _, _, _, _, _, _ => h.elim
theorem pg_n {i : Nat} {x : Str} (nd : X.N.Nodup) (hi : X.N[i]? = some x := by rfl) (hx : Loc X.env.scope x := by first | exact .inl rfl | exact .inr rfl) (hf : X.fn x = true ∨ X.env.scope.names.lookup x = some .local := by first | exact .inl rfl | exact .inr rfl | assumption) :
    PGd X B He (.Name x pos) (dgN i) := ⟨_, pg_name nd hi hx hf, fun d δ P h H0 σ H v ok r Q k => k _ _ h (ok.put r)⟩
theorem pg_t {tg : Expr} {is : List Nat} (h : PG X tg (gTup X.K is.length (gNs is))) : PGd X B He tg (dgT is) := by
  refine ⟨_, h, fun d δ P h H0 σ H v ok r Q k => ?_⟩
  unfold dgT at h
  split at h
  · cases r with
    | tup h1 h2 =>
      refine ⟨_, _, rfl, .of (ok.st.e2 _ _ h1), ?_, gNs_run h H0 σ H ok h2 Q k⟩
      rw [h2.len]
      exact (putAll_len h).symm
  · exact h.elim
/-- a, b = e, e a tuple -/
def dSetT (is : List Nat) (ta : DE) : DS := fun E δ => ta δ fun x => dgT is x δ E.nx
theorem sd_setT {e : Expr} {es : List Expr} {kk : Nat} {is : List Nat} {ta : DE} {ua : TE} {p1 : Pos} (h : PG X (.Tuple es kk p1) (gTup X.K is.length (gNs is))) (ha : PEd X e ua ta)
    (hs : swapsWithSole [.Tuple es kk p1] e pos.line X.env = pure false := by rfl) (hw : swappedStores [.Tuple es kk p1] e X.env = pure none := by rfl) : PSd X B He (.Assign [.Tuple es kk p1] e pos) (dSetT is ta) := by
  obtain ⟨a1, a2⟩ := ha
  obtain ⟨g, g1, g2⟩ := (pg_t (B := B) (He := He) h).ex
  refine ⟨_, ps_asg a1 g1 hs hw, fun E δ hT D H0 σ H L ok => a2 δ _ hT H0 H σ _ ok.st.e2 ok.env fun v x G0 G hx s r => ?_⟩
  have hp : x.plain = true := by
    cases x <;> first | rfl | exact (show False from hx).elim
  exact g2 x δ _ hx G0 σ G v (ok.to s) (r.rep_of hp) _ fun δ' σ' h ok' => L.nx δ' G0 σ' G h ok' s.e0

/-! ### for -/
def forGo (t : DG) (T : DS) (E : EndsD) : List D → List DV → Prop
  | [], δ => E.nx δ
  | d :: ds, δ => t d δ fun δ' => T { nx := forGo t T E ds, rt := E.rt, bk := E.nx, ct := forGo t T E ds } δ'
def dFor (Ti : DI) (t : DG) (T : DS) : DS := fun E δ => Ti δ fun ds => forGo t T E ds δ
theorem sd_for {tg it : Expr} {body : List Stmt} {Ti : DI} {t : DG} {T : DS} (hc : X.calm = true) (hi : PId X tg it wi Ti) (hg : PGd X B He tg t) (hb : PSsd X B He body T) (hp : PassesOwn (model X.prog X.w) X.A X.env X.xe := by exact PassesOwn.never)
    (hs : ∀ x, foldedSetIterable it X.env x = pure x := by intro _; rfl) : PSd X B He (.For tg it body [] pos) (dFor Ti t T) := by
  obtain ⟨i1, i2⟩ := hi
  obtain ⟨g, g1, g2⟩ := hg.ex
  obtain ⟨tb, b1, b2⟩ := hb.ex
  refine ⟨_, ps_for hp hc i1 g1 b1 hs, fun E δ h D H0 σ H L ok => i2 δ _ h H0 H σ _ ok.st.e2 ok.env fun J ds G0 G hgo s wk => ?_⟩
  refine ⟨fun i m σ' H' => m = ds.length - i ∧ i ≤ ds.length ∧ ∃ I0 δ', Same G0 I0 ∧ Ok X.K B He I0 δ' σ' H' ∧ forGo t T E (ds.drop i) δ', ⟨_, rfl, Nat.zero_le _, G0, δ, Same.refl _, ok.to s, hgo⟩, ?_⟩
  rintro i m σ' H' ⟨rfl, hi, I0, δ', e0, ok', go⟩
  have eH : Same G0 H' := e0.trans ok'.st.e2
  by_cases hlt : i < ds.length
  · refine .inr ⟨wk.go i H' eH hlt, fun σ2 H2 => ∃ I0 δ', Same G0 I0 ∧ Ok X.K B He I0 δ' σ2 H2 ∧ forGo t T E (ds.drop (i + 1)) δ', fun σ2 H2 ⟨I2, δ2, e2, ok2, go2⟩ => ⟨ds.length - (i + 1), by omega, rfl, hlt, I2, δ2, e2, ok2, go2⟩, fun x H2 y => ?_⟩
    have hd : ds[i]? = some ds[i] := List.getElem?_eq_getElem hlt
    obtain ⟨I1, s1, r1⟩ := wk.yld i H' x H2 _ eH y hd I0 e0 ok'.st.e2
    rw [List.drop_eq_getElem_cons hlt] at go
    refine g2 _ δ' _ go I1 σ' H2 x (ok'.to s1) r1 _ fun δ3 σ3 h3 ok3 => ?_
    have e3 : Same G0 I1 := e0.trans s1.e0
    exact b2 _ δ3 h3 _ I1 σ3 H2 ⟨fun δ4 I4 σ4 H4 h4 ok4 s4 => ⟨I4, δ4, e3.trans s4, ok4, h4⟩, L.rt, fun δ4 I4 σ4 H4 h4 ok4 s4 => L.nx δ4 I4 σ4 H4 h4 ok4 ((s.e0.trans e3).trans s4), fun δ4 I4 σ4 H4 h4 ok4 s4 => ⟨I4, δ4, e3.trans s4, ok4, h4⟩⟩ ok3
  · have e : i = ds.length := by omega
    subst e
    rw [List.drop_length] at go
    exact .inl ⟨wk.stop H' eH, L.nx δ' I0 σ' H' go ok' (s.e0.trans e0)⟩
end
end J
/-! J8: while, stores of several, comprehensions, calls, a def -/
namespace J
open PySem L2

section
variable {X : Cx} {B He : Hp} {st : Stmt} {pos : Pos} {e a b c : Expr} {ta tb tc : DE} {ua ub uc : TE}
/-! ### while -/
def whileGo (t : DT) (T : DS) (E : EndsD) : Nat → List DV → Prop
  | 0, _ => False
  | n + 1, δ => t δ fun b => match b with
    | true => T { nx := whileGo t T E n, rt := E.rt, bk := E.nx, ct := whileGo t T E n } δ
    | false => E.nx δ
def dWhile (t : DT) (T : DS) : DS := fun E δ => ∃ n, whileGo t T E n δ
theorem sd_while {body : List Stmt} {t : DT} {ut : TT} {T : DS} (hc : PTd X c ut t) (hb : PSsd X B He body T) (hp : PassesOwn (model X.prog X.w) X.A X.env X.xe := by exact PassesOwn.never) : PSd X B He (.While c body [] pos) (dWhile t T) := by
  obtain ⟨c1, c2⟩ := hc
  obtain ⟨tb, b1, b2⟩ := hb.ex
  refine ⟨_, ps_while hp c1 b1, fun E δ h D H0 σ H L ok => ?_⟩
  obtain ⟨n, hn⟩ := h
  refine ⟨fun m σ' H' => ∃ I0 δ', Same H0 I0 ∧ Ok X.K B He I0 δ' σ' H' ∧ whileGo t T E m δ', ⟨n, H0, δ, Same.refl _, ok, hn⟩, ?_⟩
  rintro m σ' H' ⟨I0, δ', e0, ok', go⟩
  cases m with
  | zero => exact go.elim
  | succ m =>
    refine c2 δ' _ go I0 H' σ' _ ok'.st.e2 ok'.env fun b G hb s => ?_
    have ok2 := ok'.to (G0 := I0) (G := G) ⟨s, Same.refl _, ok'.st.e2.trans s, fun a o q n => by rw [n] at q; cases q⟩
    cases b with
    | true =>
      rw [if_pos rfl]
      refine ⟨fun σ2 H2 => ∃ I0 δ', Same H0 I0 ∧ Ok X.K B He I0 δ' σ2 H2 ∧ whileGo t T E m δ', fun σ2 H2 w => ⟨m, Nat.lt_succ_self m, w⟩, ?_⟩
      exact b2 _ δ' hb _ I0 σ' G ⟨fun δ4 I4 σ4 H4 h4 ok4 s4 => ⟨I4, δ4, e0.trans s4, ok4, h4⟩, L.rt, fun δ4 I4 σ4 H4 h4 ok4 s4 => L.nx δ4 I4 σ4 H4 h4 ok4 (e0.trans s4), fun δ4 I4 σ4 H4 h4 ok4 s4 => ⟨I4, δ4, e0.trans s4, ok4, h4⟩⟩ ok2
    | false =>
      rw [if_neg Bool.false_ne_true]
      exact L.nx δ' I0 σ' G hb ok2 e0

/-! ### a, b = x, y -/
def dPar2 (i j : Nat) (ta tb : DE) : DS := fun E δ => ta δ fun x => tb δ fun y => asgD x fun d => asgD y fun d2 => E.nx ((δ.set i (.tr d)).set j (.tr d2))
theorem sd_par2_of {i j : Nat} (hp : ∀ t, PA X [a, b] t → PS X st (tPar i j t)) (ha : PEd X a ua ta) (hb : PEd X b ub tb) (h1 : starEach [a, b] X.env = (false, eval a X.env) :: starEach [b] X.env := by rfl) (h2 : starEach [b] X.env = (false, eval b X.env) :: starEach [] X.env := by rfl) :
    PSd X B He st (dPar2 i j ta tb) := by
  obtain ⟨a1, a2⟩ := ha
  obtain ⟨b1, b2⟩ := hb
  refine ⟨_, hp _ (pa_cons a1 (pa_cons b1 pa_nil h2) h1), fun E δ h D H0 σ H L ok => ?_⟩
  refine a2 δ _ h H0 H σ _ ok.st.e2 ok.env fun v x G0 G hx s r1 => ?_
  refine b2 δ _ hx G0 G σ _ s.e2 (ok.env.to s.e0 s.e1) fun w y I0 I hy s2 r2 => ?_
  obtain ⟨d, hd, w1⟩ := (ok.w.to (s.trans s2)).asg (i := i) r1 s2 s.e1 hy
  obtain ⟨d2, hd2, w2⟩ := w1.asg (i := j) r2 (Step.refl s2.e2) s2.e1 hd
  exact ⟨v, w, rfl, L.nx _ I0 _ I hd2 w2.ok (s.e0.trans s2.e0)⟩
def dPar3 (i j l : Nat) (ta tb tc : DE) : DS := fun E δ => ta δ fun x => tb δ fun y => tc δ fun z => asgD x fun d => asgD y fun d2 => asgD z fun d3 => E.nx (((δ.set i (.tr d)).set j (.tr d2)).set l (.tr d3))
theorem sd_par3_of {i j l : Nat} (hp : ∀ t, PA X [a, b, c] t → PS X st (tPar3 i j l t)) (ha : PEd X a ua ta) (hb : PEd X b ub tb) (hc : PEd X c uc tc) (h1 : starEach [a, b, c] X.env = (false, eval a X.env) :: starEach [b, c] X.env := by rfl)
    (h2 : starEach [b, c] X.env = (false, eval b X.env) :: starEach [c] X.env := by rfl) (h3 : starEach [c] X.env = (false, eval c X.env) :: starEach [] X.env := by rfl) : PSd X B He st (dPar3 i j l ta tb tc) := by
  obtain ⟨a1, a2⟩ := ha
  obtain ⟨b1, b2⟩ := hb
  obtain ⟨c1, c2⟩ := hc
  refine ⟨_, hp _ (pa_cons a1 (pa_cons b1 (pa_cons c1 pa_nil h3) h2) h1), fun E δ h D H0 σ H L ok => ?_⟩
  refine a2 δ _ h H0 H σ _ ok.st.e2 ok.env fun v x G0 G hx s r1 => ?_
  refine b2 δ _ hx G0 G σ _ s.e2 (ok.env.to s.e0 s.e1) fun w y I0 I hy s2 r2 => ?_
  have s12 := s.trans s2
  refine c2 δ _ hy I0 I σ _ s2.e2 (ok.env.to s12.e0 s12.e1) fun u z J0 J hz s3 r3 => ?_
  obtain ⟨d, hd, w1⟩ := (ok.w.to (s12.trans s3)).asg (i := i) r1 (s2.trans s3) s.e1 hz
  obtain ⟨d2, hd2, w2⟩ := w1.asg (i := j) r2 s3 s2.e1 hd
  obtain ⟨d3, hd3, w3⟩ := w2.asg (i := l) r3 (Step.refl s3.e2) s3.e1 hd2
  exact ⟨v, w, u, rfl, L.nx _ J0 _ J hd3 w3.ok (s12.e0.trans s3.e0)⟩

/-! ### x[i], x[j] = a, b: x held here -/
/-- one store at a place -/
def setAt (k : Nat) (ti : DE) (d : D) (δ : List DV) (P : List DV → Prop) : Prop := match δ[k]? with
  | some (.tr (.olst ds)) => ti δ fun y => asI y fun i => match ixN ds.length i with
    | some n => P (δ.set k (.tr (.olst (ds.set n d))))
    | none => False
  | _ => False
theorem setAt_inv {k : Nat} {ti : DE} {d : D} {δ : List DV} {P : List DV → Prop} (h : setAt k ti d δ P) : ∃ ds, δ[k]? = some (.tr (.olst ds)) ∧ ti δ fun y => asI y fun i => match ixN ds.length i with
    | some n => P (δ.set k (.tr (.olst (ds.set n d))))
    | none => False := by
  unfold setAt at h
  split at h
  · rename_i ds q
    exact ⟨ds, q, h⟩
  · exact h.elim
theorem setAt_run {k : Nat} {ti : DE} {ui : TE} {d : D} {δ : List DV} {P : List DV → Prop} {v : V} (hs : SndE X.K ui ti) (h : setAt k ti d δ P) {H0 H : Hp} {σ : L2.St} (ok : Ok X.K B He H0 δ σ H) (r : Rep X.K H0 v d) {Q : L2.St → Hp → Prop}
    (q : ∀ δ' G0 G, P δ' → Ok X.K B He G0 δ' σ G → Same H0 G0 → Q σ G) : gSub (tVar k) ui rSetL v σ H Q := by
  obtain ⟨ds, hq, hT⟩ := setAt_inv h
  obtain ⟨f, hf⟩ := ok.own
  obtain ⟨w, hv, o1⟩ := hf.is k _ hq
  obtain ⟨l, vs, ef, rfl, hl, hr⟩ := o1.olst
  refine ⟨.ref l, hv, hs δ _ hT H0 H σ _ ok.st.e2 ok.env fun u y G0 G hy s ry => ?_⟩
  obtain ⟨i, rfl, hp⟩ := asI_inv hy
  have ok2 := ok.to s
  obtain ⟨f2, hf2⟩ := ok2.own
  obtain ⟨v2, hv2, o2⟩ := hf2.is k _ hq
  rw [hv] at hv2
  have ev : V.ref l = v2 := Option.some.inj (Option.some.inj hv2)
  subst ev
  obtain ⟨l2, ws, ef2, el, hl2, hr2⟩ := o2.olst
  have e3 : l = l2 := V.ref.inj el
  subst e3
  cases qn : ixN ds.length i with
  | none => rw [qn] at hp; exact hp.elim
  | some n =>
    rw [qn] at hp
    refine ⟨l, ws, i, n, rfl, res_int ry, hl2, by rw [hr2.len]; exact qn, q _ G0 _ hp ?_ s.e0⟩
    refine Holds.write ok2 hf2 (by rw [ef2]; exact List.mem_cons_self) hv (lt_of_get hq) ?_
    rw [ef2]
    exact .one (.olst upd_same (hr2.setI n (r.to s.e0)))
/-- x[i], x[j] = e, e a pair -/
def dSwap (k : Nat) (ti tj te : DE) : DS := fun E δ => te δ fun x => match x with
  | .tup [d1, d2] => setAt k ti d1 δ fun δ1 => setAt k tj d2 δ1 E.nx
  | _ => False
theorem sd_swap {k : Nat} {ti tj te : DE} {ui uj ue : TE} (hp : ∀ te, PE X e te → PS X st (tAsg te (gTup X.K 2 (gCons (gSub (tVar k) ui rSetL) (gCons (gSub (tVar k) uj rSetL) gNil))))) (hi : SndE X.K ui ti) (hj : SndE X.K uj tj) (he : PEd X e ue te) : PSd X B He st (dSwap k ti tj te) := by
  obtain ⟨e1, e2⟩ := he
  refine ⟨_, hp _ e1, fun E δ h D H0 σ H L ok => e2 δ _ h H0 H σ _ ok.st.e2 ok.env fun v x G0 G hx s r => ?_⟩
  dsimp only at hx
  split at hx
  · rename_i d1 d2
    cases r.rep_of rfl with
    | tup h1 h2 =>
      cases h2 with
      | cons r1 t =>
        cases t with
        | cons r2 t2 =>
          cases t2
          refine ⟨_, _, rfl, .of (s.e2 _ _ h1), rfl, _, _, rfl, setAt_run hi hx (ok.to s) r1 fun δ1 I0 I h1 ok1 s1 => ⟨_, _, rfl, setAt_run hj h1 ok1 (r2.to s1) fun δ2 J0 J h2 ok2 s2 => ⟨rfl, L.nx δ2 J0 σ J h2 ok2 (s.e0.trans (s1.trans s2))⟩⟩⟩
  · exact hx.elim
end

/-! ### comprehensions -/
section
variable {X : Cx} {pos : Pos}
abbrev Blk (X : Cx) (scope : Scope) (s : Shared) (H : Hp) (C : Addr) (cl : List (Str × Addr)) (fp : List Addr) : Cx := X.blk s H scope (compEnvC scope cl C X.env) fp
structure PTsd (X : Cx) (ifs : List Expr) (tt : TT) (T : DT) : Prop where
  p : PTs X ifs tt
  s : SndT X.K tt T
def dYes : DT := fun _ P => P true
theorem ptn : PTsd X [] tYes dYes := ⟨pts_nil, fun δ P h H0 H1 σ Q e env k => k true H1 h (Same.refl _)⟩
theorem pto {c : Expr} {ut : TT} {t : DT} (h : PTd X c ut t) : PTsd X [c] ut t := ⟨pts_one h.p, h.s⟩
def compGo (j : Nat) (tt : DT) (te : DE) (P : D → Prop) : List D → List D → List DV → Prop
  | [], acc, _ => P (.mv (.olst acc))
  | d :: ds, acc, δ => tt (δ.set j (.tr d)) fun b => match b with
    | true => te (δ.set j (.tr d)) fun y => y.plain = true ∧ acc.length ≤ 100000 ∧ compGo j tt te P ds (acc ++ [y]) δ
    | false => compGo j tt te P ds acc δ
def dLc (j : Nat) (Ti : DI) (tt : DT) (te : DE) : DE := fun δ P => Ti δ fun ds => compGo j tt te P ds [] δ
theorem env_set {K : PySem.W.Frag} {H0 H : Hp} {δ : List DV} {σ : L2.St} {j : Nat} {d : D} {v : V} (h : EnvE K H0 H δ σ) (r : Rep K H0 v d) : EnvE K H0 H (δ.set j (.tr d)) ((wipe σ [j]).set j (some v)) := by
  have e : (wipe σ [j]).set j (some v) = σ.set j (some v) := by
    show (σ.set j none).set j (some v) = σ.set j (some v)
    rw [List.set_set]
  rw [e]
  refine ⟨fun i d' q => ?_, by rw [List.length_set, List.length_set]; exact h.len⟩
  by_cases c : i = j
  · subst c
    cases z : (δ.set i (DV.tr d))[i]? with
    | none => rw [z] at q; cases q
    | some x =>
      have lt : i < δ.length := by
        have := lt_of_get z
        rwa [List.length_set] at this
      rw [List.getElem?_set_self lt] at q
      have e2 : d = d' := Option.some.inj q
      subst e2
      exact ⟨v, [], List.getElem?_set_self (by rw [← h.len]; exact lt), .one (.leaf r)⟩
  · rw [List.getElem?_set_ne (Ne.symm c)] at q
    obtain ⟨u, p, a, b⟩ := h.at_ i d' q
    exact ⟨u, p, by rw [List.getElem?_set_ne (Ne.symm c)]; exact a, b⟩
/-- the comprehension itself: N: how many slots -/
theorem snd_lc {K : PySem.W.Frag} {j : Nat} {wi : TI} {Ti : DI} {tt : TT} {Tt : DT} {te : TE} {T : DE} (hi : SndI K wi Ti)
    (ht : SndT K tt Tt) (he : SndE K te T) {δ : List DV} {P : D → Prop} (h : dLc j Ti Tt T δ P) {H0 H1 : Hp} {σ : L2.St} {Q : VK} (e : Same H0 H1) (env : EnvE K H0 H1 δ σ) (k : Kont K H0 H1 P Q) : tLc wi (gName j) tt te [j] σ H1 Q := by
  refine hi δ _ h H0 H1 σ _ e env fun J ds G0 G hgo s wk => ?_
  intro Dl hD
  refine ⟨fun i m H' => m = ds.length - i ∧ i ≤ ds.length ∧ ∃ I0 acc vs, Same G0 I0 ∧ Same I0 H' ∧ Step H0 H1 I0 H' ∧ EnvE K I0 H' δ σ ∧ H' Dl = some (.lst vs) ∧ I0 Dl = none ∧ RepL K I0 vs acc ∧ compGo j Tt T P (ds.drop i) acc δ,
    ⟨_, rfl, Nat.zero_le _, G0, [], [], Same.refl _, s.e2.trans (same_new hD), s.grow (same_new hD), env.to s.e0 (s.e1.trans (same_new hD)), upd_same, s.e2.free hD, .nil, hgo⟩, ?_⟩
  have nD1 : H1 Dl = none := s.e1.free hD
  have nD0 : H0 Dl = none := e.free nD1
  rintro i m H' ⟨rfl, hi, I0, acc, vs, e0, e1, s0, env', hDl, nD, rl, go⟩
  have eH : Same G0 H' := e0.trans e1
  by_cases hlt : i < ds.length
  · refine .inr ⟨wk.go i H' eH hlt, fun H2 => ∃ I0 acc vs, Same G0 I0 ∧ Same I0 H2 ∧ Step H0 H1 I0 H2 ∧ EnvE K I0 H2 δ σ ∧ H2 Dl = some (.lst vs) ∧ I0 Dl = none ∧ RepL K I0 vs acc ∧ compGo j Tt T P (ds.drop (i + 1)) acc δ, fun H2 w => ⟨ds.length - (i + 1), by omega, rfl, hlt, w⟩, fun x H2 y => ?_⟩
    have hd : ds[i]? = some ds[i] := List.getElem?_eq_getElem hlt
    obtain ⟨I1, s1, r1⟩ := wk.yld i H' x H2 _ eH y hd I0 e0 e1
    rw [List.drop_eq_getElem_cons hlt] at go
    have env2 := env_set (j := j) (env'.to s1.e0 s1.e1) r1
    have keepD : ∀ {A0 A : Hp}, Step I0 H' A0 A → A Dl = some (.lst vs) ∧ A0 Dl = none := fun {A0 A} z => by
      refine ⟨z.e1 _ _ hDl, ?_⟩
      cases q : A0 Dl with
      | none => rfl
      | some o =>
        have w := z.fr Dl o q nD
        rw [hDl] at w
        cases w
    refine ⟨?_, ht _ _ go I1 H2 _ _ s1.e2 env2 fun b A hb sA => ?_⟩
    · show (((σ.set j none).set j (some x)).set j none) = σ.set j none
      rw [List.set_set, List.set_set]
    have sA1 : Step I0 H' I1 A := s1.grow sA
    cases b with
    | true =>
      rw [if_pos rfl]
      refine he _ _ hb I1 A _ _ (s1.e2.trans sA) (env2.to (Same.refl _) sA) fun u z A0 A2 hz s2 r2 => ?_
      have s3 : Step I0 H' A0 A2 := sA1.trans s2
      obtain ⟨k1, k2⟩ := keepD s3
      have nH1 : ∀ o, H1 Dl = some o → False := fun o q => by rw [nD1] at q; cases q
      refine ⟨vs, k1, sz6 (by rw [rl.len]; exact hz.2.1), A0, acc ++ [z], _, e0.trans s3.e0, fun a o q => ?_, ?_, ?_, upd_same, k2, (rl.to s3.e0).app (.cons (r2.rep_of hz.1) .nil), hz.2.2⟩
      · have ne : a ≠ Dl := fun z => by rw [z, k2] at q; cases q
        rw [upd_ne ne]
        exact s3.e2 a o q
      · have s4 := s0.trans s3
        exact ⟨fun a o q => by rw [upd_ne (fun z => nH1 o (by rw [← z]; exact q))]; exact s4.e1 a o q, s4.e0, fun a o q => by rw [upd_ne (fun z => by rw [z, k2] at q; cases q)]; exact s4.e2 a o q, s4.fr⟩
      · refine ⟨fun i' d' q' => ?_, env.len⟩
        obtain ⟨u', p', a', b'⟩ := env.at_ i' d' q'
        have s4 := s0.trans s3
        refine ⟨u', p', a', b'.mono s4.e0 fun y hy o ho => ?_⟩
        rw [upd_ne (fun z => nH1 o (by rw [← z]; exact ho))]
        exact s4.e1 y o ho
    | false =>
      rw [if_neg Bool.false_ne_true]
      obtain ⟨k1, k2⟩ := keepD sA1
      exact ⟨I1, acc, vs, e0.trans s1.e0, sA1.e2, s0.trans sA1, env'.to sA1.e0 sA1.e1, k1, k2, rl.to s1.e0, hb⟩
  · have ei : i = ds.length := by omega
    subst ei
    rw [List.drop_length] at go
    refine .inl ⟨wk.stop H' eH, k _ _ I0 H' go s0 ⟨[Dl], .one (.olst hDl rl), List.nodup_cons.mpr ⟨List.not_mem_nil, List.nodup_nil⟩, fun a ha => ?_⟩⟩
    rcases List.mem_cons.mp ha with z | z
    · rw [z]
      exact ⟨nD, nD1⟩
    · cases z
end
end J
/-! J9: comprehensions as values, calls, a def, a class's own way in -/
namespace J
open PySem PySem.Spec PyProof.Rows L2

/-- one reading for each moment: all of them -/
def allE (te : Shared → Hp → Addr → List (Str × Addr) → List Addr → TE) : TE := fun σ H Q => ∀ s G C cl fp, te s G C cl fp σ H Q
def allT (tt : Shared → Hp → Addr → List (Str × Addr) → List Addr → TT) : TT := fun σ H Q => ∀ s G C cl fp, tt s G C cl fp σ H Q
theorem pe_all {X : Cx} {e : Expr} {te : Shared → Hp → Addr → List (Str × Addr) → List Addr → TE} {s : Shared} {G : Hp} {C : Addr} {cl : List (Str × Addr)} {fp : List Addr} (h : PE X e (te s G C cl fp)) : PE X e (allE te) := ⟨fun pins s2 σ H Q I q => h.run pins s2 σ H Q I (q s G C cl fp)⟩
theorem pts_all {X : Cx} {es : List Expr} {tt : Shared → Hp → Addr → List (Str × Addr) → List Addr → TT} {s : Shared} {G : Hp} {C : Addr} {cl : List (Str × Addr)} {fp : List Addr} (h : PTs X es (tt s G C cl fp)) : PTs X es (allT tt) := ⟨fun pins s2 σ H Q I q => h.run pins s2 σ H Q I (q s G C cl fp)⟩
theorem snd_allE {K : PySem.W.Frag} {te : Shared → Hp → Addr → List (Str × Addr) → List Addr → TE} {T : DE} (h : ∀ s G C cl fp, SndE K (te s G C cl fp) T) : SndE K (allE te) T := fun δ P hT H0 H1 σ Q e env k s G C cl fp => h s G C cl fp δ P hT H0 H1 σ Q e env k
theorem snd_allT {K : PySem.W.Frag} {tt : Shared → Hp → Addr → List (Str × Addr) → List Addr → TT} {T : DT} (h : ∀ s G C cl fp, SndT K (tt s G C cl fp) T) : SndT K (allT tt) T := fun δ P hT H0 H1 σ Q e env k s G C cl fp => h s G C cl fp δ P hT H0 H1 σ Q e env k
section
variable {X : Cx} {B He : Hp} {st : Stmt} {pos : Pos} {e : Expr} {es : List Expr} {ta : DE} {ua : TE} {tr : DA} {ur : TA}
theorem pd_lc {elt iter : Expr} {ifs : List Expr} {scope : Scope} {x : Str} {j : Nat} {p : Pos} {wi : TI} {Ti : DI} {tt : Shared → Hp → Addr → List (Str × Addr) → List Addr → TT} {Tt : DT} {te : Shared → Hp → Addr → List (Str × Addr) → List Addr → TE} {T : DE} (hc : X.calm = true) (nd : X.N.Nodup) (hi : PId X (.Name x p) iter wi Ti) (ok : BlkOk X.N X.env.scope scope [(x, j)])
    (hg : ∀ (s : Shared) (H : Hp) (C : Addr) (cl : List (Str × Addr)) (fp : List Addr), PG (Blk X scope s H C cl fp) (.Name x p) (gName j)) (ht : ∀ (s : Shared) (H : Hp) (C : Addr) (cl : List (Str × Addr)) (fp : List Addr), PTsd (Blk X scope s H C cl fp) ifs (tt s H C cl fp) Tt)
    (he : ∀ (s : Shared) (H : Hp) (C : Addr) (cl : List (Str × Addr)) (fp : List Addr), PEd (Blk X scope s H C cl fp) elt (te s H C cl fp) T) (hs : ∀ x, foldedSetIterable iter X.env x = pure x := by intro _; rfl) :
    PEd X (.ListComp elt [⟨.Name x p, iter, ifs, 0⟩] scope pos) (tLc wi (gName j) (allT tt) (allE te) [j]) (dLc j Ti Tt T) :=
  ⟨pe_lc (own := [(x, j)]) hc nd hi.p ok hg (fun s H C cl fp => pts_all (ht s H C cl fp).p) (fun s H C cl fp => pe_all (he s H C cl fp).p) hs,
    fun δ P h H0 H1 σ Q e env k => snd_lc hi.s (snd_allT fun s H C cl fp => (ht s H C cl fp).s) (snd_allE fun s H C cl fp => (he s H C cl fp).s) h e env k⟩
/-- x = e by any rule -/
theorem sd_asg {i : Nat} {te : TE} {T : DE} (hp : PS X st (tAsg te (gName i))) (hs : SndE X.K te T) : PSd X B He st (dSet i T) :=
  ⟨_, hp, fun E δ h D H0 σ H L ok => hs δ _ h H0 H σ _ ok.st.e2 ok.env fun v x G0 G hx s r => by
    obtain ⟨d, hd, ok'⟩ := ok.asg (i := i) s r hx
    exact L.nx _ G0 _ G hd ok' s.e0⟩
/-- y = [..] -/
theorem sd_setLc {elt iter : Expr} {ifs : List Expr} {scope : Scope} {x y : Str} {i j : Nat} {p py : Pos} {spos : Pos} {wi : TI} {Ti : DI} {tt : Shared → Hp → Addr → List (Str × Addr) → List Addr → TT} {Tt : DT} {te : Shared → Hp → Addr → List (Str × Addr) → List Addr → TE} {T : DE} (hc : X.calm = true) (nd : X.N.Nodup) (hi : PId X (.Name x p) iter wi Ti) (ok : BlkOk X.N X.env.scope scope [(x, j)])
    (hg : ∀ (s : Shared) (H : Hp) (C : Addr) (cl : List (Str × Addr)) (fp : List Addr), PG (Blk X scope s H C cl fp) (.Name x p) (gName j)) (ht : ∀ (s : Shared) (H : Hp) (C : Addr) (cl : List (Str × Addr)) (fp : List Addr), PTsd (Blk X scope s H C cl fp) ifs (tt s H C cl fp) Tt)
    (he : ∀ (s : Shared) (H : Hp) (C : Addr) (cl : List (Str × Addr)) (fp : List Addr), PEd (Blk X scope s H C cl fp) elt (te s H C cl fp) T) (hsw : swapsWith (.ListComp elt [⟨.Name x p, iter, ifs, 0⟩] scope pos) (some (.Name y py)) spos.line X.env = pure true) (hy : X.N[i]? = some y := by rfl) (hyl : X.env.scope.names.lookup y = some .local := by rfl)
    (hs : ∀ x, foldedSetIterable iter X.env x = pure x := by intro _; rfl) : PSd X B He (.Assign [.Name y py] (.ListComp elt [⟨.Name x p, iter, ifs, 0⟩] scope pos) spos) (dSet i (dLc j Ti Tt T)) :=
  sd_asg (ps_setLc (own := [(x, j)]) hc nd hy hyl hsw hi.p ok hg (fun s H C cl fp => pts_all (ht s H C cl fp).p) (fun s H C cl fp => pe_all (he s H C cl fp).p) hs)
    fun δ P h H0 H1 σ Q e env k => snd_lc hi.s (snd_allT fun s H C cl fp => (ht s H C cl fp).s) (snd_allE fun s H C cl fp => (he s H C cl fp).s) h e env k

/-! ### calls of the program's own -/
abbrev GD : Type := List D → (D → Prop) → Prop
def spD (K : PySem.W.Frag) (n : Nat) (G : GD) : Sp := fun vs H Q _ => vs.length = n ∧ ∃ ds P H0, G ds P ∧ Same H0 H ∧ RepL K H0 vs ds ∧ Kont K H0 H P Q
/-- f(..), all that is handed in plain -/
def dCall (G : GD) (t : DA) : DE := fun δ P => t δ fun ds => ds.all D.plain = true ∧ G ds P
theorem snd_call {K : PySem.W.Frag} {n : Nat} {G : GD} (hn : ∀ ds P, G ds P → ds.length = n) (hs : SndA K ur tr) : SndE K (tCall (spD K n G) [] E0 ur) (dCall G tr) := fun δ P hT H0 H1 σ Q e env k => hs δ _ hT H0 H1 σ _ e env fun vs ds G0 G1 hx s al => by
  have r := al.rep hx.1
  rw [List.append_nil]
  exact ⟨r.len.trans (hn _ _ hx.2), ds, P, G0, hx.2, s.e2, r, k.after s⟩
theorem pd_call {x : Str} {p : Pos} {f : Addr} {fd : FuncData} {k n : Nat} {ps : List Str} {G : GD} (F : FnOk X.prog X.w X.K X.mg X.base CX0 k f fd ps (spD X.K n G)) (hr : Room k X.A) (hm : X.mg x = some (.ref f)) (kp : PySem.W.keepIn X.K (.ref f) = true) (hb : Binds X.K fd ps []) (hn : ∀ ds P, G ds P → ds.length = n)
    (ha : PAd X (e :: es) ur tr) (hg : Gl X x := by rfl) (hdb : (x == ("__debug__" : Str)) = false := by decide) (he : starEach (e :: es) X.env = (false, eval e X.env) :: starEach es X.env := by rfl) (hpl : (backTo pos (starEach es X.env)).any (·.1) = false := by rfl) :
    PEd X (.Call (.Name x p) (e :: es) [] pos) (tCall (spD X.K n G) [] E0 ur) (dCall G tr) := ⟨pe_call F hr hg hm kp hb .nil pass0 ha.p hdb he hpl, snd_call hn ha.s⟩
/-! what is held may be handed in where the answer holds none of it -/
def D.scal : D → Bool
  | .non => true
  | .bl _ => true
  | .int _ => true
  | .str _ => true
  | _ => false
def D.leafy : D → Bool
  | .mv (.olst ds) => ds.all D.scal
  | .mv (.oll dss) => dss.all fun ds => ds.all D.scal
  | .mv (.oobj _ gs) => gs.all fun g => match g.2 with
    | .olst ds => ds.all D.scal
    | .oll dss => dss.all fun ds => ds.all D.scal
    | d => d.scal
  | .mv d => d.scal
  | d => d.scal
theorem Rep.sc {K : PySem.W.Frag} {H H' : Hp} {v : V} {d : D} (h : Rep K H v d) (e : d.scal = true) : Rep K H' v d := by
  cases h <;> first | exact .non | exact .bl _ | exact .int _ | exact .str _ | cases e
theorem RepL.sc {K : PySem.W.Frag} {H H' : Hp} : ∀ {vs : List V} {ds : List D}, RepL K H vs ds → ds.all D.scal = true → RepL K H' vs ds
  | _, _, .nil, _ => .nil
  | _, _, .cons a t, e => by
    rw [List.all_cons, Bool.and_eq_true] at e
    exact .cons (a.sc e.1) (t.sc e.2)
theorem RepLL.sc {K : PySem.W.Frag} {H0 H0' H : Hp} : ∀ {as : List Addr} {dss : List (List D)}, RepLL K H0 H as dss → (dss.all fun ds => ds.all D.scal) = true → RepLL K H0' H as dss
  | _, _, .nil, _ => .nil
  | _, _, .cons h a t, e => by
    rw [List.all_cons, Bool.and_eq_true] at e
    exact .cons h (a.sc e.1) (t.sc e.2)
theorem OwnF.sc {K : PySem.W.Frag} {H0 H0' H : Hp} : ∀ {p : List Addr} {fs : List (Str × V)} {gs : List (Str × D)}, OwnF K H0 H p fs gs → (gs.all fun g => match g.2 with
    | .olst ds => ds.all D.scal
    | .oll dss => dss.all fun ds => ds.all D.scal
    | d => d.scal) = true → OwnF K H0' H p fs gs
  | _, _, _, .nil, _ => .nil
  | _, _, _, .cons h t, e => by
    rw [List.all_cons, Bool.and_eq_true] at e
    refine .cons ?_ (t.sc e.2)
    have e1 := e.1
    cases h with
    | leaf r =>
      refine .leaf (r.sc ?_)
      cases r <;> exact e1
    | olst a b => exact .olst a (b.sc e1)
    | oll a b => exact .oll a (b.sc e1)
theorem Res.sc {K : PySem.W.Frag} {H1 G0 G I0 : Hp} {v : V} {d : D} (h : Res K H1 G0 G v d) (e : d.leafy = true) (f : ∀ p, Fresh G0 H1 p → Fresh I0 H1 p) : Res K H1 I0 G v d := by
  have sc : d.scal = true → d.plain = true → Res K H1 I0 G v d := fun e1 e2 => Res.rep ((h.rep_of e2).sc e1)
  cases d with
  | mv d =>
    obtain ⟨p, o, fr⟩ := h
    cases o with
    | one r =>
      cases r with
      | leaf r =>
        refine ⟨[], .one (.leaf (r.sc ?_)), f _ fr⟩
        cases r <;> exact e
      | olst a b => exact ⟨_, .one (.olst a (b.sc e)), f _ fr⟩
      | oll a b => exact ⟨_, .one (.oll a (b.sc e)), f _ fr⟩
    | oobj a b => exact ⟨_, .oobj a (b.sc e), f _ fr⟩
  | non => exact sc rfl rfl
  | bl _ => exact sc rfl rfl
  | int _ => exact sc rfl rfl
  | str _ => exact sc rfl rfl
  | _ => cases e
/-- all that is handed in is told plain -/
theorem AL.fz {K : PySem.W.Frag} {G0 G : Hp} (e : Same G0 G) : ∀ {vs : List V} {ds : List D}, AL K G0 G vs ds → ∃ I0, Same G0 I0 ∧ Same I0 G ∧ RepL K I0 vs (ds.map frz)
  | _, _, .nil => ⟨G0, Same.refl _, e, .nil⟩
  | _, _, .cons ⟨p, h⟩ t => by
    obtain ⟨I0, e1, e2, r⟩ := AL.fz e t
    refine ⟨more I0 G p, e1.trans (more_same e2), more_sub e2, .cons ?_ (r.to (more_same e2))⟩
    exact (h.to e1 (Same.refl _)).frz e2 (more_same e2) fun a ha o ho => by rw [more_in ha]; exact ho
def dCallB (G : GD) (t : DA) : DE := fun δ P => t δ fun ds => G (ds.map frz) fun d => d.leafy = true ∧ P d
theorem kont_b {K : PySem.W.Frag} {G0 G I0 : Hp} {P : D → Prop} {Q : VK} (e : Same G0 I0) (eI : Same I0 G) (k : Kont K G0 G P Q) : Kont K I0 G (fun d => d.leafy = true ∧ P d) Q := fun v d J0 J hp s r => by
  refine k v d G0 J hp.2 ⟨s.e1, Same.refl _, (e.trans eI).trans s.e1, fun a o q n => by rw [n] at q; cases q⟩ (r.sc hp.1 fun p fr => ⟨fr.1, fun a ha => ⟨(e.trans eI).free (fr.2 a ha).2, (fr.2 a ha).2⟩⟩)
theorem snd_callB {K : PySem.W.Frag} {n : Nat} {G : GD} (hn : ∀ ds P, G ds P → ds.length = n) (hs : SndA K ur tr) : SndE K (tCall (spD K n G) [] E0 ur) (dCallB G tr) := fun δ P hT H0 H1 σ Q e env k => hs δ _ hT H0 H1 σ _ e env fun vs ds G0 G1 hx s al => by
  obtain ⟨I0, e1, e2, r⟩ := AL.fz s.e2 al
  rw [List.append_nil]
  exact ⟨r.len.trans (hn _ _ hx), _, _, I0, hx, e2, r, kont_b e1 e2 (k.after s)⟩
theorem pd_callB {x : Str} {p : Pos} {f : Addr} {fd : FuncData} {k n : Nat} {ps : List Str} {G : GD} (F : FnOk X.prog X.w X.K X.mg X.base CX0 k f fd ps (spD X.K n G)) (hr : Room k X.A) (hm : X.mg x = some (.ref f)) (kp : PySem.W.keepIn X.K (.ref f) = true) (hb : Binds X.K fd ps []) (hn : ∀ ds P, G ds P → ds.length = n)
    (ha : PAd X (e :: es) ur tr) (hg : Gl X x := by rfl) (hdb : (x == ("__debug__" : Str)) = false := by decide) (he : starEach (e :: es) X.env = (false, eval e X.env) :: starEach es X.env := by rfl) (hpl : (backTo pos (starEach es X.env)).any (·.1) = false := by rfl) :
    PEd X (.Call (.Name x p) (e :: es) [] pos) (tCall (spD X.K n G) [] E0 ur) (dCallB G tr) := ⟨pe_call F hr hg hm kp hb .nil pass0 ha.p hdb he hpl, snd_callB hn ha.s⟩
/-! ### o.m(..) -/
/-- an instance of C whose fields don't hide m -/
def D.isA (C : Addr) (m : Str) : D → Prop
  | .obj C' gs => C' = C ∧ gs.lookup m = none
  | .oobj C' gs => C' = C ∧ gs.lookup m = none
  | _ => False
theorem RepF.none {K : PySem.W.Frag} {H : Hp} {m : Str} : ∀ {fs : List (Str × V)} {gs : List (Str × D)}, RepF K H fs gs → gs.lookup m = none → fs.lookup m = none
  | _, _, .nil, _ => rfl
  | _, _, .cons (x := x) a t, e => by
    rw [List.lookup_cons] at e ⊢
    cases q : m == x with
    | true => rw [q] at e; cases e
    | false =>
      rw [q] at e
      exact t.none e
theorem OwnF.none {K : PySem.W.Frag} {H0 H : Hp} {m : Str} : ∀ {p : List Addr} {fs : List (Str × V)} {gs : List (Str × D)}, OwnF K H0 H p fs gs → gs.lookup m = none → fs.lookup m = none
  | _, _, _, .nil, _ => rfl
  | _, _, _, .cons (x := x) a t, e => by
    rw [List.lookup_cons] at e ⊢
    cases q : m == x with
    | true => rw [q] at e; cases e
    | false =>
      rw [q] at e
      exact t.none e
theorem Own.isA {K : PySem.W.Frag} {H0 H : Hp} {p : List Addr} {v : V} {d : D} {C : Addr} {m : Str} (h : Own K H0 H p v d) (e : Same H0 H) (i : d.isA C m) : ∃ a dx fs, v = .ref a ∧ H a = some (.ins C dx fs) ∧ fs.lookup m = none := by
  cases d with
  | obj C' gs =>
    obtain ⟨rfl, hl⟩ := i
    cases h.rep with
    | obj h1 h2 => exact ⟨_, _, _, rfl, e _ _ h1, h2.none hl⟩
  | oobj C' gs =>
    obtain ⟨rfl, hl⟩ := i
    cases h with
    | one r => cases r with | leaf r => cases r
    | oobj h1 h2 => exact ⟨_, _, _, rfl, h1, h2.none hl⟩
  | _ => exact i.elim
def dMeth (C : Addr) (m : Str) (G : GD) (to : DE) (t : DA) : DE := fun δ P => to δ fun x => x.un.isA C m ∧ t δ fun ds => (x.un :: ds).all D.plain = true ∧ G (x.un :: ds) P
def dMethB (C : Addr) (m : Str) (G : GD) (to : DE) (t : DA) : DE := fun δ P => to δ fun x => x.un.isA C m ∧ t δ fun ds => G ((x.un :: ds).map frz) fun d => d.leafy = true ∧ P d
theorem snd_meth {K : PySem.W.Frag} {C : Addr} {m : Str} {n : Nat} {G : GD} {to : DE} {uo : TE} (hn : ∀ ds P, G ds P → ds.length = n) (ho : SndE K uo to) (hs : SndA K ur tr) : SndE K (tMeth C m (spD K n G) [] E0 uo ur) (dMeth C m G to tr) := fun δ P hT H0 H1 σ Q e env k =>
  ho δ _ hT H0 H1 σ _ e env fun v x G0 G1 hx s r => by
    obtain ⟨p, o⟩ := r.un
    obtain ⟨a, dx, fs, ev, h1, h2⟩ := o.isA s.e2 hx.1
    refine ⟨a, dx, fs, ev, h1, h2, hs δ _ hx.2 G0 G1 σ _ s.e2 (env.to s.e0 s.e1) fun vs ds I0 I hy s2 al => ?_⟩
    have rr := AL.rep (K := K) (.cons ⟨p, o.to s2.e0 s2.e1⟩ al) hy.1
    rw [List.append_nil]
    exact ⟨rr.len.trans (hn _ _ hy.2), _, P, I0, hy.2, s2.e2, rr, k.after (s.trans s2)⟩
theorem snd_methB {K : PySem.W.Frag} {C : Addr} {m : Str} {n : Nat} {G : GD} {to : DE} {uo : TE} (hn : ∀ ds P, G ds P → ds.length = n) (ho : SndE K uo to) (hs : SndA K ur tr) : SndE K (tMeth C m (spD K n G) [] E0 uo ur) (dMethB C m G to tr) := fun δ P hT H0 H1 σ Q e env k =>
  ho δ _ hT H0 H1 σ _ e env fun v x G0 G1 hx s r => by
    obtain ⟨p, o⟩ := r.un
    obtain ⟨a, dx, fs, ev, h1, h2⟩ := o.isA s.e2 hx.1
    refine ⟨a, dx, fs, ev, h1, h2, hs δ _ hx.2 G0 G1 σ _ s.e2 (env.to s.e0 s.e1) fun vs ds I0 I hy s2 al => ?_⟩
    obtain ⟨J0, e1, e2, rr⟩ := AL.fz (K := K) s2.e2 (.cons ⟨p, o.to s2.e0 s2.e1⟩ al)
    rw [List.append_nil]
    exact ⟨rr.len.trans (hn _ _ hy), _, _, J0, hy, e2, rr, kont_b e1 e2 (k.after (s.trans s2))⟩
end

/-! ### a def keeps its promise -/
section
variable {P : Program} {w : World} {K : PySem.W.Frag} {mg : Str → Option Value} {base : Heap} {x qual : Str} {params : Arguments} {body : List Stmt} {scope : Scope} {f : Addr} {fd : FuncData} {N ps : List Str} {k n : Nat} {G : GD} {T : DS}
abbrev Cxd (P : Program) (w : World) (K : PySem.W.Frag) (mg : Str → Option Value) (base : Heap) (N : List Str) (qual : Str) (scope : Scope) (f : Addr) (cdv : Value) (A : Around) (outer : List Env) (s : Shared) (H : Hp) : Cx := (cxOf CX0 P w K mg base N qual scope f cdv A outer s H E0).nox
def δof (m : Nat) (ds : List D) : List DV := ds.map DV.tr ++ List.replicate (m - ds.length) DV.no
theorem ok_start {vs : List V} {ds : List D} {H0 H : Hp} (e : Same H0 H) (r : RepL K H0 vs ds) : Ok K H H0 H0 (δof N.length ds) (L2.start N vs) H := by
  refine ⟨⟨Same.refl _, Same.refl _, e, fun a o q n => by rw [n] at q; cases q⟩, ⟨fun _ => [], fun i d q => ?_, fun i => ⟨List.nodup_nil, fun a ha => absurd ha List.not_mem_nil⟩, fun i j _ a ha => absurd ha List.not_mem_nil, fun i a ha => absurd ha List.not_mem_nil⟩, ?_⟩
  · unfold δof at q
    by_cases c : i < ds.length
    · rw [List.getElem?_append_left (by rw [List.length_map]; exact c), List.getElem?_map, List.getElem?_eq_getElem c] at q
      have ed : ds[i] = d := by
        have z : DV.tr ds[i] = DV.tr d := Option.some.inj q
        injection z
      obtain ⟨v, hv, rv⟩ := r.at (List.getElem?_eq_getElem c)
      rw [ed] at rv
      refine ⟨v, ?_, .one (.leaf rv)⟩
      unfold L2.start
      rw [List.getElem?_append_left (by rw [List.length_map]; exact lt_of_get hv), List.getElem?_map, hv] <;> rfl
    · rw [List.getElem?_append_right (by rw [List.length_map]; omega), List.getElem?_replicate] at q
      split at q <;> cases q
  · unfold δof L2.start
    rw [List.length_append, List.length_append, List.length_map, List.length_map, List.length_replicate, List.length_replicate, r.len]
theorem fn_ok (F : FunD K x qual params body scope [] [] f fd) (S : FnScope N ps scope) (hn : ps.length = n)
    (hb : ∀ (cdv : Value) (A : Around) (outer : List Env) (s : Shared) (H B He : Hp), Room k (A.deeper (envOfC qual scope s.heap.objs.size f cdv)) → PSsd (Cxd P w K mg base N qual scope f cdv A outer s H) B He body T)
    (hT : ∀ ds Q, G ds Q → T { nx := fun _ => Q .non, rt := Q } (δof N.length ds)) : FnOk P w K mg base CX0 (k + 1) f fd ps (spD K n G) := by
  refine F.ok S (fun vs H Q E h => h.1.trans hn.symm) fun cdv A outer s H vs Q E hr h => ?_
  obtain ⟨_, ds, R, H0, hG, e, r, kt⟩ := h
  obtain ⟨t, h1, h2⟩ := (hb cdv A outer s H H H0 hr).ex
  refine ⟨t, PSs.nox h1, h2 _ _ (hT ds R hG) _ H0 _ H ⟨fun δ G0 σ G hq ok _ => ?_, fun d v G0 G hq s r => ?_, fun δ G0 σ G hq _ _ => hq.elim, fun δ G0 σ G hq _ _ => hq.elim⟩ (ok_start e r)⟩
  · exact kt .non .non G0 G hq ok.st (Res.rep .non)
  · exact kt v d G0 G hq s r
end
end J
/-! J10: in a dict, isinstance, instances made -/
namespace J
open PySem PySem.Spec PyProof.Rows L2

section
variable {X : Cx} {pos : Pos} {a b e : Expr} {ta tb : DE} {ua ub : TE}
/-! ### (i, j) in d -/
def gInD : D → D → (D → Prop) → Prop := fun x y P => match x, y with
  | .tup [.int i, .int j], .dct ks => P (.bl (decide ((i, j) ∈ ks)))
  | _, _ => False
theorem tab_val (i j : Int) : ∀ ks : List (Int × Int), (valV (tab ks) [Sum.inl i, Sum.inl j]).isSome = decide ((i, j) ∈ ks)
  | [] => by simp [tab, valV]
  | k :: ks => by
    have ih := tab_val i j ks
    rw [← valV_any] at ih ⊢
    show (decide ([Sum.inl k.1, Sum.inl k.2] = ([Sum.inl i, Sum.inl j] : List Key)) || (tab ks).any _) = _
    rw [ih]
    by_cases c : (i, j) = k
    · subst c
      simp
    · have c1 : ¬ ([Sum.inl k.1, Sum.inl k.2] = ([Sum.inl i, Sum.inl j] : List Key)) := fun z => by
        simp only [List.cons.injEq, Sum.inl.injEq, and_true] at z
        exact c (Prod.ext z.1.symm z.2.symm)
      rw [decide_eq_false c1, Bool.false_or]
      refine decide_eq_decide.mpr ⟨fun m => List.mem_cons_of_mem _ m, fun m => ?_⟩
      rcases List.mem_cons.mp m with z | z
      · exact absurd z c
      · exact z
theorem snd_inD {K : PySem.W.Frag} (ha : SndE K ua ta) (hb : SndE K ub tb) : SndE K (tDIn ua ub) (dOp gInD ta tb) := fun δ P hT H0 H1 σ Q e env k => by
  refine ha δ _ hT H0 H1 σ _ e env fun v x G0 G hx s r1 => ?_
  refine hb δ _ hx G0 G σ _ s.e2 (env.to s.e0 s.e1) fun w y I0 I hy s2 r2 => ?_
  obtain ⟨p, o1⟩ := (r1.to s2).un
  obtain ⟨q, o2⟩ := r2.un
  have hy : gInD x.un y.un P := hy
  unfold gInD at hy
  split at hy
  · rename_i i j ks e1 e2
    rw [e1] at o1
    rw [e2] at o2
    obtain ⟨t, vs, rfl, h1, h2⟩ := o1.tup s2.e2
    have ev : vs = [.int i, .int j] := by
      have z : [D.int i, D.int j] = [i, j].map D.int := rfl
      rw [z] at h2
      exact h2.ints
    subst ev
    cases o2.rep with
    | dct h3 =>
      refine ⟨_, _, rfl, DGet.t (k := [Sum.inl i, Sum.inl j]) (s2.e2 _ _ h3) h1, ?_⟩
      rw [tab_val]
      exact (k.after (s.trans s2)).val s2.e2 hy (.bl _)
  · exact hy.elim
theorem pd_inD (hu : X.A.units + 1 < cLine) (ha : PEd X a ua ta) (hb : PEd X b ub tb) (hm : behindInMarks .In b = false := by rfl) : PEd X (.Compare a [.In] [b] pos) (tDIn ua ub) (dOp gInD ta tb) := ⟨pe_cmp (pc_din hu ha.p hb.p) hm, snd_inD ha.s hb.s⟩

/-! ### isinstance -/
def D.ty : D → Option String
  | .non => some "NoneType"
  | .bl _ => some "bool"
  | .int _ => some "int"
  | .str _ => some "str"
  | .lst _ => some "list"
  | .olst _ => some "list"
  | .oll _ => some "list"
  | .scr _ => none
  | .tup _ => some "tuple"
  | .dct _ => some "dict"
  | _ => none
/-- what isinstance asks of an own class -/
structure InsOk (K : PySem.W.Frag) (C : Addr) : Prop where
  cls : Cls K C
  ha : PySem.W.findIn K (.ref C) "__class__" = some (some (.builtin "object.__class__"))
  hn : PySem.W.specialIn K (.builtin "object.__class__") "__get__" = some (some (.builtin "getset_descriptor.__get__"))
  ht : PySem.W.takesIn K (.builtin "object.__class__") = some true
  hm : PySem.W.mroIn K C (.type "object") = some true
def gIsi (K : PySem.W.Frag) (u : Value) (x : D) (P : D → Prop) : Prop := match x with
  | .obj C _ => InsOk K C ∧ ∃ b, PySem.W.kitOne K (.ref C) u = some b ∧ P (.bl b)
  | .oobj C _ => InsOk K C ∧ ∃ b, PySem.W.kitOne K (.ref C) u = some b ∧ P (.bl b)
  | x => match x.ty with
    | some t => ∃ b, PySem.W.kitOne K (.type t) u = some b ∧ P (.bl b)
    | none => False
theorem gIsi_inv {K : PySem.W.Frag} {u : Value} {x : D} {P : D → Prop} (h : gIsi K u x P) {H0 H1 : Hp} {p : List Addr} {v : V} (e : Same H0 H1) (o : Own K H0 H1 p v x) : ∃ t b, TyX K H1 v t ∧ PySem.W.kitOne K t u = some b ∧ P (.bl b) := by
  have key : ∀ t, x.ty = some t → (∃ b, PySem.W.kitOne K (.type t) u = some b ∧ P (.bl b)) → TyX K H1 v (.type t) → ∃ t b, TyX K H1 v t ∧ PySem.W.kitOne K t u = some b ∧ P (.bl b) := fun t _ ⟨b, h1, h2⟩ ty => ⟨_, b, ty, h1, h2⟩
  cases x with
  | obj C gs =>
    obtain ⟨c, b, h1, h2⟩ := h
    cases o.rep with
    | obj h3 _ => exact ⟨_, b, .base (.ins (e _ _ h3) c.cls c.ha c.hn c.ht c.hm), h1, h2⟩
  | oobj C gs =>
    obtain ⟨c, b, h1, h2⟩ := h
    cases o with
    | one r => cases r with | leaf r => cases r
    | oobj h3 _ => exact ⟨_, b, .base (.ins h3 c.cls c.ha c.hn c.ht c.hm), h1, h2⟩
  | non => exact key _ rfl h (by rw [o.non]; exact .base .non)
  | bl _ => exact key _ rfl h (by rw [o.bl]; exact .base (.bl _))
  | int _ => exact key _ rfl h (by rw [o.int]; exact .base (.int _))
  | str _ => exact key _ rfl h (by rw [o.str]; exact .base (.str _))
  | lst ds =>
    obtain ⟨a, vs, rfl, h1, _⟩ := o.list e (ds := ds) rfl
    exact key _ rfl h (.base (.lst h1))
  | olst ds =>
    obtain ⟨a, vs, rfl, h1, _⟩ := o.list e (ds := ds) rfl
    exact key _ rfl h (.base (.lst h1))
  | oll dss =>
    cases o with
    | one r =>
      cases r with
      | leaf r => cases r
      | oll h1 _ => exact key _ rfl h (.base (.lst h1))
  | tup ds =>
    obtain ⟨a, vs, rfl, h1, _⟩ := o.tup e
    exact key _ rfl h (.base (.tup h1))
  | dct ks =>
    cases o.rep with
    | dct h1 => exact key _ rfl h (.base (.dT (e _ _ h1)))
  | scr _ => exact h.elim
  | mv _ => exact h.elim
def dIsi (K : PySem.W.Frag) (u : Value) (ta : DE) : DE := fun δ P => ta δ fun x => gIsi K u x.un P
theorem pd_isi {c : V} {u : Value} {y : Str} {p p2 : Pos} (hm : X.mg "isinstance" = none) (hc : PE X (.Name y p2) (tC c)) (hk : ClsV c u) (ha : PEd X a ua ta) (hg : Gl X "isinstance" := by rfl) (h1 : starEach [a, .Name y p2] X.env = (false, eval a X.env) :: starEach [.Name y p2] X.env := by rfl)
    (h2 : starEach [.Name y p2] X.env = (false, eval (.Name y p2) X.env) :: starEach [] X.env := by rfl) (hpl : (backTo pos (starEach [.Name y p2] X.env)).any (·.1) = false := by rfl) :
    PEd X (.Call (.Name "isinstance" p) [a, .Name y p2] [] pos) (tCB (rIsi X.K) (tCons ua (tCons (tC c) tNil))) (dIsi X.K u ta) := by
  obtain ⟨a1, a2⟩ := ha
  refine ⟨pe_callB call_isi hg hm boot_isinstance (pa_cons a1 (pa_cons hc pa_nil h2) h1) (by decide) (by decide) h1 hpl, fun δ P hT H0 H1 σ Q e env k => a2 δ _ hT H0 H1 σ _ e env fun v x G0 G hx s r => ?_⟩
  obtain ⟨q, o⟩ := r.un
  obtain ⟨t, b, ty, hb, hp⟩ := gIsi_inv hx s.e2 o
  exact ⟨v, c, t, u, b, rfl, hk, ty, hb, (k.after s).val s.e2 hp (.bl _)⟩
/-- the class's name: an own class, a built-in one -/
theorem pe_own {y : Str} {C : Addr} {p : Pos} (hm : X.mg y = some (.ref C)) (hg : Gl X y := by rfl) (hd : (y == ("__debug__" : Str)) = false := by decide) : PE X (.Name y p) (tC (.ref C)) := pe_glob hg hm rfl hd
theorem pe_typ {y : Str} {t : String} {p : Pos} (hm : X.mg y = none) (hv : bootBuiltins y = some (.type t)) (hg : Gl X y := by rfl) (hn : y ≠ "__name__" := by decide) (hd : (y == ("__debug__" : Str)) = false := by decide) : PE X (.Name y p) (tC (.ty t)) := pe_bltn hg hm hv rfl hn hd
/-- one way or the other -/
def tOr2 (t1 t2 : TE) : TE := fun σ H Q => t1 σ H Q ∨ t2 σ H Q
theorem pd_or2 {t1 t2 : TE} {T1 T2 : DE} (h1 : PEd X e t1 T1) (h2 : PEd X e t2 T2) : PEd X e (tOr2 t1 t2) (fun δ P => T1 δ P ∨ T2 δ P) :=
  ⟨⟨fun pins s σ H Q I h => h.elim (h1.p.run pins s σ H Q I) (h2.p.run pins s σ H Q I)⟩, fun δ P hT H0 H1 σ Q e env k => hT.elim (fun z => .inl (h1.s δ P z H0 H1 σ Q e env k)) fun z => .inr (h2.s δ P z H0 H1 σ Q e env k)⟩
end

/-! ### instances made -/
def hide (H : Hp) (x : Addr) : Hp := fun a => if a = x then none else H a
theorem hide_same {H : Hp} {x : Addr} : Same (hide H x) H := fun a o h => by
  unfold hide at h
  split at h
  · cases h
  · exact h
theorem hide_at {H : Hp} {x : Addr} : hide H x x = none := if_pos rfl
theorem hide_ne {H : Hp} {x a : Addr} (h : a ≠ x) : hide H x a = H a := if_neg h
/-- the promise of a class's __init__ -/
def spI (K : PySem.W.Frag) (C : Addr) (n : Nat) (G : GD) : Sp := fun vs H Q _ => ∃ x dx ws ds P H0, vs = .ref x :: ws ∧ ws.length = n ∧ H x = some (.ins C dx []) ∧ H0 x = none ∧ Same H0 H ∧ RepL K H0 ws ds ∧ G ds P ∧
  ∀ d G0 G', P d → Step H0 (hide H x) G0 G' → Res K (hide H x) G0 G' (.ref x) d → Q .non G'
section
variable {X : Cx} {pos : Pos} {e : Expr} {es : List Expr} {tr : DA} {ur : TA}
theorem same_hide {H0 H : Hp} {x : Addr} (e : Same H0 H) (h : H0 x = none) : Same H0 (hide H x) := fun a o q => by
  rw [hide_ne fun z => by rw [z, h] at q; cases q]
  exact e a o q
theorem snd_make {K : PySem.W.Frag} {C : Addr} {n : Nat} {G : GD} (hn : ∀ ds P, G ds P → ds.length = n) (hs : SndA K ur tr) : SndE K (tMake C (spI K C n G) [] E0 ur) (dCall G tr) := fun δ P hT H0 H1 σ Q e env k => hs δ _ hT H0 H1 σ _ e env fun vs ds G0 G1 hx s al => by
  have r := al.rep hx.1
  intro x dx nx ndx ne
  have nx0 : G0 x = none := s.e2.free nx
  have e1 : Same G1 (upd (upd G1 dx (.own x)) x (.ins C dx [])) := (same_new ndx).trans (same_new (by rw [upd_ne (Ne.symm ne)]; exact nx))
  have e2 : Same G1 (hide (upd (upd G1 dx (.own x)) x (.ins C dx [])) x) := same_hide e1 nx
  refine ⟨x, dx, vs, ds, P, G0, by rw [List.append_nil], r.len.trans (hn _ _ hx.2), upd_same, nx0, s.e2.trans e1, r, hx.2, fun d I0 I hp s2 rr => ⟨rfl, ?_⟩⟩
  exact (k.after s) _ d I0 I hp ⟨e2.trans s2.e1, s2.e0, s2.e2, fun a o q n => e2.free (s2.fr a o q n)⟩ (rr.back e2)
/-- C(..) -/
theorem pd_make {x : Str} {p : Pos} {C f : Addr} {fd : FuncData} {k n : Nat} {ps : List Str} {G : GD} (M : Mk X.K C f) (F : FnOk X.prog X.w X.K X.mg X.base CX0 k f fd ps (spI X.K C n G)) (hr : Room (k + 1) X.A) (hm : X.mg x = some (.ref C)) (hb : Binds X.K fd ps []) (hn : ∀ ds P, G ds P → ds.length = n)
    (ha : PAd X (e :: es) ur tr) (hg : Gl X x := by rfl) (hdb : (x == ("__debug__" : Str)) = false := by decide) (he : starEach (e :: es) X.env = (false, eval e X.env) :: starEach es X.env := by rfl) (hpl : (backTo pos (starEach es X.env)).any (·.1) = false := by rfl) :
    PEd X (.Call (.Name x p) (e :: es) [] pos) (tMake C (spI X.K C n G) [] E0 ur) (dCall G tr) := ⟨pe_make M F hr hg hm hb .nil pass0 ha.p hdb he hpl, snd_make hn ha.s⟩

/-! ### the ways in -/
/-- slots of plain values alone -/
structure EnvP (K : PySem.W.Frag) (H0 : Hp) (δ : List DV) (σ : L2.St) : Prop where
  at_ : ∀ (i : Nat) (d : D), (δ[i]?).bind DV.see = some d → ∃ v, σ[i]? = some (some v) ∧ Rep K H0 v d
  len : δ.length = σ.length
theorem EnvP.to {K : PySem.W.Frag} {H0 G0 : Hp} {δ : List DV} {σ : L2.St} (h : EnvP K H0 δ σ) (e : Same H0 G0) : EnvP K G0 δ σ := ⟨fun i d q => by
  obtain ⟨v, a, b⟩ := h.at_ i d q
  exact ⟨v, a, b.to e⟩, h.len⟩
theorem EnvP.env {K : PySem.W.Frag} {H0 H : Hp} {δ : List DV} {σ : L2.St} (h : EnvP K H0 δ σ) : EnvE K H0 H δ σ := ⟨fun i d q => by
  obtain ⟨v, a, b⟩ := h.at_ i d q
  exact ⟨v, [], a, .one (.leaf b)⟩, h.len⟩
/-- the new instance at x, its fields so far, the arguments -/
structure InI (K : PySem.W.Frag) (C : Addr) (B He H0 : Hp) (δ : List DV) (σ : L2.St) (H : Hp) (x : Addr) (gs : List (Str × D)) : Prop where
  st : Step He B H0 H
  env : EnvP K H0 δ σ
  me : σ[0]? = some (some (.ref x))
  obj : ∃ dx fs p, H x = some (.ins C dx fs) ∧ OwnF K H0 H p fs gs ∧ Fresh H0 B (x :: p)
theorem OwnF.len {K : PySem.W.Frag} {H0 H : Hp} : ∀ {p : List Addr} {fs : List (Str × V)} {gs : List (Str × D)}, OwnF K H0 H p fs gs → fs.length = gs.length
  | _, _, _, .nil => rfl
  | _, _, _, .cons _ t => congrArg (· + 1) t.len
theorem putF_new {f : Str} {v : V} : ∀ {fs : List (Str × V)}, fs.lookup f = none → putF f v fs = fs ++ [(f, v)]
  | [], _ => rfl
  | (g, w) :: r, h => by
    rw [List.lookup_cons] at h
    cases q : f == g with
    | true => rw [q] at h; cases h
    | false =>
      rw [q] at h
      have ne : ¬ g = f := fun z => by rw [z] at q; simp at q
      show (if g = f then _ else _) = _
      rw [if_neg ne, putF_new h] <;> rfl
theorem OwnF.snoc {K : PySem.W.Frag} {H0 H : Hp} {f : Str} {v : V} {d : D} {q : List Addr} (o : Own1 K H0 H q v d) : ∀ {p : List Addr} {fs : List (Str × V)} {gs : List (Str × D)}, OwnF K H0 H p fs gs → OwnF K H0 H (p ++ q) (fs ++ [(f, v)]) (gs ++ [(f, d)])
  | _, _, _, .nil => by
    have z := OwnF.cons (x := f) o .nil
    rw [List.append_nil] at z
    exact z
  | _, _, _, .cons a t => by
    rw [List.append_assoc]
    exact .cons a (t.snoc o)
/-- may stand in a field -/
def fldD (x : D) (P : D → Prop) : Prop := match x with
  | .mv (.olst ds) => P (.olst ds)
  | .mv (.oll dss) => P (.oll dss)
  | x => x.plain = true ∧ P x
theorem fldD_inv {x : D} {P : D → Prop} (h : fldD x P) : (∃ d, x = .mv d ∧ (∀ C gs, d ≠ .oobj C gs) ∧ P d) ∨ (x.plain = true ∧ P x) := by
  unfold fldD at h
  split at h
  · exact .inl ⟨_, rfl, fun C gs => (nomatch ·), h⟩
  · exact .inl ⟨_, rfl, fun C gs => (nomatch ·), h⟩
  · exact .inr h
section
variable {C : Addr} {B He H0 H : Hp} {δ : List DV} {σ : L2.St} {x : Addr} {gs : List (Str × D)} {D' : Ends}
/-- self.f = e -/
theorem ini_fld {K : PySem.W.Frag} {f : Str} {te : TE} {T : DE} {P : D → Prop} (h : InI K C B He H0 δ σ H x gs) (hs : SndE K te T) (hT : T δ fun d => fldD d P) (ok : FldOk K C f) (hl : gs.lookup f = none) (hz : gs.length ≤ 100)
    (k : ∀ d G0 G, P d → InI K C B He G0 δ σ G x (gs ++ [(f, d)]) → D'.nx σ G) : sFld K (tVar 0) te f D' σ H := by
  refine hs δ _ hT H0 H σ _ h.st.e2 h.env.env fun v y G0 G hy s r => ?_
  obtain ⟨dx, fs, p, ho, hf, fr⟩ := h.obj
  have hoG := s.e1 _ _ ho
  have frG : ∀ a ∈ x :: p, G0 a = none := fun a ha => by
    cases q : G0 a with
    | none => rfl
    | some o =>
      obtain ⟨u, hu⟩ := (Own.oobj ho hf).there a ha
      have z := s.fr a o q (fr.2 a ha).1
      rw [hu] at z
      cases z
  have hfG : OwnF K G0 G p fs gs := hf.mono s.e0 (keepO s.e1)
  have xp : x ∉ p := (List.nodup_cons.mp fr.1).1
  have st2 : Step He B G0 G := h.st.trans s
  have put : ∀ (d : D) (q : List Addr), Own1 K G0 G q v d → Fresh G0 H q → P d → D'.nx σ (upd G x (.ins C dx (putF f v fs))) := fun d q o fq hp => by
    have xq : x ∉ q := fun z => by
      have w := (fq.2 x z).2
      rw [ho] at w
      cases w
    have disj : ∀ a ∈ p, a ∉ q := fun a ha z => by
      obtain ⟨u, hu⟩ := hf.there a ha
      rw [(fq.2 a z).2] at hu
      cases hu
    have keep : ∀ r : List Addr, x ∉ r → KeepO r G (upd G x (.ins C dx (putF f v fs))) := fun r hr a ha o ho => by
      rw [upd_ne fun z => hr (by rw [← z]; exact ha)]
      exact ho
    have nx0 : G0 x = none := frG x List.mem_cons_self
    refine k d G0 _ hp ⟨⟨fun a o q => ?_, st2.e0, fun a o q => ?_, st2.fr⟩, h.env.to s.e0, h.me, dx, _, p ++ q, upd_same, ?_, ?_⟩
    · rw [upd_ne fun z => by rw [z, (fr.2 x List.mem_cons_self).2] at q; cases q]
      exact st2.e1 a o q
    · rw [upd_ne fun z => by rw [z, nx0] at q; cases q]
      exact s.e2 a o q
    · have z := (hfG.mono (Same.refl _) (keep p xp)).snoc (f := f) (o.mono (Same.refl _) (keep q xq))
      rw [← putF_new (hf.none hl)] at z
      exact z
    · refine ⟨?_, fun a ha => ?_⟩
      · rw [← List.cons_append]
        refine List.nodup_append.mpr ⟨fr.1, fq.1, fun a ha b hb z => ?_⟩
        subst z
        rcases List.mem_cons.mp ha with z | z
        · exact xq (by rw [← z]; exact hb)
        · exact disj a z hb
      · rw [← List.cons_append] at ha
        rcases List.mem_append.mp ha with z | z
        · exact ⟨frG a z, (fr.2 a z).2⟩
        · exact ⟨(fq.2 a z).1, h.st.e1.free (fq.2 a z).2⟩
  have fin : ∀ (d : D) (q : List Addr), Own1 K G0 G q v d → Fresh G0 H q → P d → tVar 0 σ G fun z H2 => ∃ a C' dx fs, z = .ref a ∧ H2 a = some (.ins C' dx fs) ∧ Cls K C' ∧ NoAttr K C' f ∧ fs.length < 1000 ∧ D'.nx σ (upd H2 a (.ins C' dx (putF f v fs))) := fun d q o fq hp =>
    ⟨.ref x, h.me, x, C, dx, fs, rfl, hoG, ok.cls, ok.no, by rw [hf.len]; omega, put d q o fq hp⟩
  rcases fldD_inv hy with ⟨d, rfl, hno, hp⟩ | ⟨hpl, hp⟩
  · obtain ⟨q, o, fq⟩ := r
    cases o with
    | one o1 => exact fin d q o1 fq hp
    | oobj _ _ => exact absurd rfl (hno _ _)
  · exact fin y [] (.leaf (r.rep_of hpl)) ⟨List.nodup_nil, fun a ha => absurd ha List.not_mem_nil⟩ hp
/-- an if that is not taken -/
theorem ini_if {K : PySem.W.Frag} {tt : TT} {T : DT} {t1 : TS} (h : InI K C B He H0 δ σ H x gs) (hs : SndT K tt T) (hT : T δ fun b => b = false) (k : ∀ G, InI K C B He H0 δ σ G x gs → D'.nx σ G) : tIfS tt t1 tNext D' σ H := by
  refine hs δ _ hT H0 H σ _ h.st.e2 h.env.env fun b G hb s => ?_
  rw [hb, if_neg Bool.false_ne_true]
  refine k G ⟨⟨h.st.e1.trans s, h.st.e0, h.st.e2.trans s, h.st.fr⟩, h.env, h.me, ?_⟩
  obtain ⟨dx, fs, p, ho, hf, fr⟩ := h.obj
  exact ⟨dx, fs, p, s _ _ ho, hf.mono (Same.refl _) (keepO s), fr⟩
/-- the end -/
theorem InI.res {K : PySem.W.Frag} (h : InI K C B He H0 δ σ H x gs) : Res K B H0 H (.ref x) (.mv (.oobj C gs)) := by
  obtain ⟨dx, fs, p, ho, hf, fr⟩ := h.obj
  exact ⟨_, .oobj ho hf, fr⟩
theorem ini_start {K : PySem.W.Frag} {dx : Addr} {ws : List V} {ds : List D} {N : List Str} (ho : H x = some (.ins C dx [])) (hx : H0 x = none) (e : Same H0 H) (r : RepL K H0 ws ds) : InI K C (hide H x) H0 H0 (DV.no :: δof (N.length - 1) ds) (L2.start N (.ref x :: ws)) H x [] := by
  refine ⟨⟨hide_same, Same.refl _, e, fun a o q n => by rw [n] at q; cases q⟩, ⟨fun i d q => ?_, ?_⟩, rfl, dx, [], [], ho, .nil, List.nodup_cons.mpr ⟨List.not_mem_nil, List.nodup_nil⟩, fun a ha => ?_⟩
  · cases i with
    | zero => cases q
    | succ i =>
      have q : ((δof (N.length - 1) ds)[i]?).bind DV.see = some d := q
      unfold δof at q
      by_cases c : i < ds.length
      · rw [List.getElem?_append_left (by rw [List.length_map]; exact c), List.getElem?_map, List.getElem?_eq_getElem c] at q
        have ed : ds[i] = d := Option.some.inj q
        obtain ⟨v, hv, rv⟩ := r.at (List.getElem?_eq_getElem c)
        rw [ed] at rv
        refine ⟨v, ?_, rv⟩
        show (ws.map some ++ _)[i]? = _
        rw [List.getElem?_append_left (by rw [List.length_map]; exact lt_of_get hv), List.getElem?_map, hv] <;> rfl
      · rw [List.getElem?_append_right (by rw [List.length_map]; omega), List.getElem?_replicate] at q
        split at q <;> cases q
  · unfold δof L2.start
    rw [List.length_cons, List.length_append, List.length_append, List.length_map, List.length_map, List.length_replicate, List.length_replicate, List.length_cons, ← r.len]
    omega
  · rcases List.mem_cons.mp ha with z | z
    · rw [z]
      exact ⟨hx, hide_at⟩
    · cases z
end
/-- an __init__ keeps its promise -/
theorem fn_ini {P : Program} {w : World} {K : PySem.W.Frag} {mg : Str → Option Value} {base : Heap} {x qual : Str} {params : Arguments} {body : List Stmt} {scope : Scope} {f C : Addr} {fd : FuncData} {N ps : List Str} {k n : Nat} {G : GD} (F : FunD K x qual params body scope [] [] f fd) (S : FnScope N ps scope) (hn : ps.length = n + 1)
    (hb : ∀ (cdv : Value) (A : Around) (outer : List Env) (s : Shared) (H0 H B : Hp) (x : Addr) (ds : List D) (R : D → Prop) (D' : Ends) (σ : L2.St), Room k (A.deeper (envOfC qual scope s.heap.objs.size f cdv)) → G ds R → InI K C B H0 H0 (DV.no :: δof (N.length - 1) ds) σ H x [] →
      (∀ gs G0 σ G, R (.mv (.oobj C gs)) → InI K C B H0 G0 (DV.no :: δof (N.length - 1) ds) σ G x gs → D'.nx σ G) → ∃ t, PSs (Cxd P w K mg base N qual scope f cdv A outer s H) body t ∧ t D' σ H) : FnOk P w K mg base CX0 (k + 1) f fd ps (spI K C n G) := by
  refine F.ok S (fun vs H Q E h => ?_) fun cdv A outer s H vs Q E hr h => ?_
  · obtain ⟨_, _, ws, _, _, _, rfl, hl, _⟩ := h
    rw [List.length_cons, hl, hn]
  · obtain ⟨x, dx, ws, ds, R, H0, rfl, hl, ho, hx, e, r, hG, kt⟩ := h
    obtain ⟨t, h1, h2⟩ := hb cdv A outer s H0 H (hide H x) x ds R { nx := fun _ H' => Q .non H', rt := Q } (L2.start N (.ref x :: ws)) hr hG (ini_start ho hx e r) fun gs G0 σ G hR I => kt _ G0 G hR I.st I.res
    exact ⟨t, PSs.nox h1, h2⟩
end
end J
/-! J11: small things for the printed proofs -/
namespace J
open PySem PySem.Spec PyProof.Rows L2

def dNev : DS := fun _ _ => False
def dNeg (ta : DE) : DE := fun δ P => ta δ fun x => asI x fun i => P (.int (-i))
section
variable {X : Cx} {B He : Hp} {st : Stmt} {pos : Pos} {a b : Expr} {ta tb : DE} {ua ub : TE}
theorem sd_nev : PSd X B He st dNev := sd_never
theorem pd_ng (ha : PEd X a ua ta) : PEd X (.UnaryOp .USub a pos) (tUn (rU fun i => .int (-i)) ua) (dNeg ta) := pd_neg ha
theorem pt_inD (hu : X.A.units + 1 < cLine) (ha : PEd X a ua ta) (hb : PEd X b ub tb) (hm : behindInMarks .In b = false := by rfl) : PTd X (.Compare a [.In] [b] pos) (tB (tDIn ua ub)) (dT (dOp gInD ta tb)) :=
  ⟨pt_cmp (pc_din hu ha.p hb.p) hm, fun δ P hT H0 H1 σ Q e env k => snd_inD ha.s hb.s δ _ hT H0 H1 σ _ e env fun v x G0 G hx s r => by
    obtain ⟨b, rfl, hp⟩ := asB_inv hx
    exact ⟨b, res_bl r, k b G hp s.e1⟩⟩
theorem hu1 {A : Around} {k : Nat} (hr : Room k A) : A.units + 1 < cLine := hu_of hr
theorem hu64 {A : Around} {k : Nat} (hr : Room k A) : A.units + 64 < cLine := hr.units
theorem hu65 {A : Around} {k : Nat} (hr : Room k A) : A.units + 65 < cLine := by have := hr.un; omega
end
/-- a def of the program, as its callers see it -/
structure Def (P : Program) (w : World) (K : PySem.W.Frag) (mg : Str → Option Value) (base : Heap) (x : Str) (k n : Nat) (G : GD) : Prop where
  ex : ∃ f fd ps, FnOk P w K mg base CX0 k f fd ps (spD K n G) ∧ mg x = some (.ref f) ∧ PySem.W.keepIn K (.ref f) = true ∧ Binds K fd ps []
/-- a method of the class at C -/
structure MDef (P : Program) (w : World) (K : PySem.W.Frag) (mg : Str → Option Value) (base : Heap) (C : Addr) (x : Str) (k n : Nat) (G : GD) : Prop where
  ex : ∃ f fd ps, FnOk P w K mg base CX0 k f fd ps (spD K n G) ∧ Meth K C x f ∧ Binds K fd ps []
/-- a class whose instances are made -/
structure CDef (P : Program) (w : World) (K : PySem.W.Frag) (mg : Str → Option Value) (base : Heap) (C : Addr) (x : Str) (k n : Nat) (G : GD) : Prop where
  ex : ∃ f fd ps, FnOk P w K mg base CX0 k f fd ps (spI K C n G) ∧ mg x = some (.ref C) ∧ Mk K C f ∧ Binds K fd ps []
section
variable {X : Cx} {pos : Pos} {e o : Expr} {es : List Expr} {tr : DA} {ur : TA} {to : DE} {uo : TE}
theorem pd_def {x : Str} {p : Pos} {k n : Nat} {G : GD} (d : Def X.prog X.w X.K X.mg X.base x k n G) (hn : ∀ ds P, G ds P → ds.length = n) (hr : Room k X.A)
    (ha : PAd X (e :: es) ur tr) (hg : Gl X x := by rfl) (hdb : (x == ("__debug__" : Str)) = false := by decide) (he : starEach (e :: es) X.env = (false, eval e X.env) :: starEach es X.env := by rfl) (hpl : (backTo pos (starEach es X.env)).any (·.1) = false := by rfl) :
    PEd X (.Call (.Name x p) (e :: es) [] pos) (tCall (spD X.K n G) [] E0 ur) (dCall G tr) := by
  obtain ⟨f, fd, ps, F, m, kp, b⟩ := d.ex
  exact pd_call F hr m kp b hn ha hg hdb he hpl
theorem pd_defB {x : Str} {p : Pos} {k n : Nat} {G : GD} (d : Def X.prog X.w X.K X.mg X.base x k n G) (hn : ∀ ds P, G ds P → ds.length = n) (hr : Room k X.A)
    (ha : PAd X (e :: es) ur tr) (hg : Gl X x := by rfl) (hdb : (x == ("__debug__" : Str)) = false := by decide) (he : starEach (e :: es) X.env = (false, eval e X.env) :: starEach es X.env := by rfl) (hpl : (backTo pos (starEach es X.env)).any (·.1) = false := by rfl) :
    PEd X (.Call (.Name x p) (e :: es) [] pos) (tCall (spD X.K n G) [] E0 ur) (dCallB G tr) := by
  obtain ⟨f, fd, ps, F, m, kp, b⟩ := d.ex
  exact pd_callB F hr m kp b hn ha hg hdb he hpl
theorem pd_mdef {x : Str} {p : Pos} {k n : Nat} {G : GD} {C : Addr} {pl : Sem Bool} (cl : Cls X.K C) (d : MDef X.prog X.w X.K X.mg X.base C x k n G) (hn : ∀ ds P, G ds P → ds.length = n) (hr : Room k X.A) (ho : PEd X o uo to)
    (ha : PAd X (e :: es) ur tr) (hst : starEach (e :: es) X.env = (false, eval e X.env) :: starEach es X.env := by rfl) (hpl : (backTo pos (starEach es X.env)).any (·.1) = false := by rfl)
    (ht : eval (.Call (.Attribute o x p) (e :: es) [] pos) X.env = (do
      let ov ← eval o X.env
      standAt p.atName
      let (f, first) ← holding [ov] (getMethod ov x pl)
      callWith pos f first (backTo pos (starEach (e :: es) X.env)) (backToKw pos (keywordEach [] X.env))) := by rfl) :
    PEd X (.Call (.Attribute o x p) (e :: es) [] pos) (tMeth C x (spD X.K n G) [] E0 uo ur) (dMeth C x G to tr) := by
  obtain ⟨f, fd, ps, F, m, b⟩ := d.ex
  exact ⟨pe_meth ho.p cl m F hr b .nil pass0 ha.p hst hpl ht, snd_meth hn ho.s ha.s⟩
theorem pd_mdefB {x : Str} {p : Pos} {k n : Nat} {G : GD} {C : Addr} {pl : Sem Bool} (cl : Cls X.K C) (d : MDef X.prog X.w X.K X.mg X.base C x k n G) (hn : ∀ ds P, G ds P → ds.length = n) (hr : Room k X.A) (ho : PEd X o uo to)
    (ha : PAd X (e :: es) ur tr) (hst : starEach (e :: es) X.env = (false, eval e X.env) :: starEach es X.env := by rfl) (hpl : (backTo pos (starEach es X.env)).any (·.1) = false := by rfl)
    (ht : eval (.Call (.Attribute o x p) (e :: es) [] pos) X.env = (do
      let ov ← eval o X.env
      standAt p.atName
      let (f, first) ← holding [ov] (getMethod ov x pl)
      callWith pos f first (backTo pos (starEach (e :: es) X.env)) (backToKw pos (keywordEach [] X.env))) := by rfl) :
    PEd X (.Call (.Attribute o x p) (e :: es) [] pos) (tMeth C x (spD X.K n G) [] E0 uo ur) (dMethB C x G to tr) := by
  obtain ⟨f, fd, ps, F, m, b⟩ := d.ex
  exact ⟨pe_meth ho.p cl m F hr b .nil pass0 ha.p hst hpl ht, snd_methB hn ho.s ha.s⟩
theorem pd_cdef {x : Str} {p : Pos} {k n : Nat} {G : GD} {C : Addr} (d : CDef X.prog X.w X.K X.mg X.base C x k n G) (hn : ∀ ds P, G ds P → ds.length = n) (hr : Room (k + 1) X.A)
    (ha : PAd X (e :: es) ur tr) (hg : Gl X x := by rfl) (hdb : (x == ("__debug__" : Str)) = false := by decide) (he : starEach (e :: es) X.env = (false, eval e X.env) :: starEach es X.env := by rfl) (hpl : (backTo pos (starEach es X.env)).any (·.1) = false := by rfl) :
    PEd X (.Call (.Name x p) (e :: es) [] pos) (tMake C (spI X.K C n G) [] E0 ur) (dCall G tr) := by
  obtain ⟨f, fd, ps, F, m, M, b⟩ := d.ex
  exact pd_make M F hr m b hn ha hg hdb he hpl
end
/-! ### what is told of the program -/
/-- the instance of Minds -/
def pD (p : Int × Int) : D := .tup [.int p.1, .int p.2]
def mD (C : Addr) (n : Int) (ps : List (Int × Int)) : D := .obj C [("kinds", .int n), ("kept", .lst (ps.map pD)), ("table", .dct ps)]
abbrev rD (xs : List Int) : D := .lst (xs.map .int)
end J
/-! J12: longer chains, xs[::2], list(range), sets, count, index -/
namespace J
open PySem PySem.Spec PyProof.Rows L2

section
variable {X : Cx} {B He : Hp} {pos : Pos} {a b c d e : Expr} {ta tb tc td : DE} {ua ub uc ud : TE}
/-! ### a < b < c < d -/
def tCh3 (r1 r2 r3 : R2) (ta tb tc td : TE) : TE := fun σ H Q => ta σ H fun x H1 => tb σ H1 fun y H2 => r1 x y H2 fun z H3 => ∃ k, z = .bl k ∧
  (if k = true then tc σ H3 fun u H4 => r2 y u H4 fun z2 H5 => ∃ k2, z2 = .bl k2 ∧ (if k2 = true then td σ H5 fun v H6 => r3 u v H6 Q else Q (.bl false) H5) else Q (.bl false) H3)
theorem pe_ch3 {o1 o2 o3 : CmpOp} {r1 r2 r3 : R2} (h1 : OpR X (compareOp o1) r1) (h2 : OpR X (compareOp o2) r2) (h3 : OpR X (compareOp o3) r3) (ha : PE X a ua) (hb : PE X b ub) (hc : PE X c uc) (hd : PE X d ud)
    (hm : lastMarks [o1, o2, o3] [b, c, d] = false := by with_unfolding_all rfl) : PE X (.Compare a [o1, o2, o3] [b, c, d] pos) (tCh3 r1 r2 r3 ua ub uc ud) := by
  constructor
  intro pins s σ H Q I h
  apply Compare_chain (hm := hm)
  refine thn (ha.run pins s σ H _ I h) fun v s1 ⟨x, H1, I1, q1, q⟩ => ?_
  apply chain_link
  refine thn (hb.run pins s1 σ H1 _ I1 q) fun u s2 ⟨y, H2, I2, q2, q⟩ => ?_
  refine thn (h1 pins s2 σ H2 x y v u _ I2 q1 q2 q) fun t s3 ⟨z, H3, I3, q3, k, e, q⟩ => ?_
  subst e
  cases q3
  apply wpAny_truthy_bool
  cases k with
  | false => exact ite_ff ⟨.bl false, H3, I3, rfl, q⟩
  | true =>
    apply ite_tt
    apply chain_link
    refine thn (hc.run pins s3 σ H3 _ I3 q) fun u2 s4 ⟨y2, H4, I4, q4, q⟩ => ?_
    refine thn (h2 pins s4 σ H4 y y2 u u2 _ I4 q2 q4 q) fun t s5 ⟨z, H5, I5, q5, k, e, q⟩ => ?_
    subst e
    cases q5
    apply wpAny_truthy_bool
    cases k with
    | false => exact ite_ff ⟨.bl false, H5, I5, rfl, q⟩
    | true =>
      apply ite_tt
      apply chain_last
      refine thn (hd.run pins s5 σ H5 _ I5 q) fun u3 s6 ⟨y3, H6, I6, q6, q⟩ => ?_
      exact h3 pins s6 σ H6 y2 y3 u2 u3 Q I6 q4 q6 q
def dCh3 (g1 g2 g3 : D → D → (D → Prop) → Prop) (ta tb tc td : DE) : DE := fun δ P => ta δ fun x => tb δ fun y => g1 x.un y.un fun z => asB z fun b => match b with
  | true => tc δ fun u => g2 y.un u.un fun z => asB z fun b => match b with
    | true => td δ fun v => g3 u.un v.un P
    | false => P (.bl false)
  | false => P (.bl false)
theorem pd_ch3 {o1 o2 o3 : CmpOp} {r1 r2 r3 : R2} {g1 g2 g3 : D → D → (D → Prop) → Prop} (h1 : OpR X (compareOp o1) r1) (h2 : OpR X (compareOp o2) r2) (h3 : OpR X (compareOp o3) r3) (k1 : OpD X.K r1 g1) (k2 : OpD X.K r2 g2) (k3 : OpD X.K r3 g3)
    (ha : PEd X a ua ta) (hb : PEd X b ub tb) (hc : PEd X c uc tc) (hd : PEd X d ud td) (hm : lastMarks [o1, o2, o3] [b, c, d] = false := by with_unfolding_all rfl) : PEd X (.Compare a [o1, o2, o3] [b, c, d] pos) (tCh3 r1 r2 r3 ua ub uc ud) (dCh3 g1 g2 g3 ta tb tc td) := by
  obtain ⟨a1, a2⟩ := ha
  obtain ⟨b1, b2⟩ := hb
  obtain ⟨c1, c2⟩ := hc
  obtain ⟨e1, e2⟩ := hd
  refine ⟨pe_ch3 h1 h2 h3 a1 b1 c1 e1 hm, fun δ P hT H0 H1 σ Q e env k => ?_⟩
  refine a2 δ _ hT H0 H1 σ _ e env fun v x G0 G hx s r1 => ?_
  refine b2 δ _ hx G0 G σ _ s.e2 (env.to s.e0 s.e1) fun w y I0 I hy s2 r2 => ?_
  obtain ⟨p, o1⟩ := (r1.to s2).un
  obtain ⟨q, o2⟩ := r2.un
  refine k1 _ _ _ hy v w I0 I p q _ s2.e2 o1 o2 fun u d J0 J hd s3 r3 => ?_
  obtain ⟨b, rfl, hp⟩ := asB_inv hd
  refine ⟨b, res_bl r3, ?_⟩
  have s4 := (s.trans s2).trans s3
  cases b with
  | false =>
    rw [if_neg Bool.false_ne_true]
    exact (k.after s4).val s3.e2 hp (.bl _)
  | true =>
    rw [if_pos rfl]
    refine c2 δ _ hp J0 J σ _ s3.e2 (env.to s4.e0 s4.e1) fun u2 d2 L0 L hd2 s5 r5 => ?_
    obtain ⟨q3, o3⟩ := r5.un
    refine k2 _ _ _ hd2 w u2 L0 L q q3 _ s5.e2 ((o2.to s3.e0 s3.e1).to s5.e0 s5.e1) o3 fun u d J0 J hd s6 r6 => ?_
    obtain ⟨b, rfl, hp⟩ := asB_inv hd
    refine ⟨b, res_bl r6, ?_⟩
    have s7 := (s4.trans s5).trans s6
    cases b with
    | false =>
      rw [if_neg Bool.false_ne_true]
      exact (k.after s7).val s6.e2 hp (.bl _)
    | true =>
      rw [if_pos rfl]
      refine e2 δ _ hp J0 J σ _ s6.e2 (env.to s7.e0 s7.e1) fun u3 d3 L0 L hd3 s8 r8 => ?_
      obtain ⟨q4, o4⟩ := r8.un
      exact k3 _ _ _ hd3 u2 u3 L0 L q3 q4 Q s8.e2 ((o3.to s6.e0 s6.e1).to s8.e0 s8.e1) o4 (k.after (s7.trans s8))

/-! ### xs[::2] -/
/-- some of the items, one by one -/
def pick {α : Type} (xs : List α) (is : List Nat) : List α := is.filterMap fun i => xs[i]?
def tTwo (K : PySem.W.Frag) (te : TE) : TE := fun σ H Q => te σ H fun x H1 => ∃ a xs, x = .ref a ∧ SqL K H1 a xs ∧ ∀ is p, is.length ≤ xs.length → H1 p = none → Q (.ref p) (upd H1 p (.lst (pick xs is)))
theorem pick_vals {xs : List V} {us : List Value} (h : Vals xs us) : ∀ is : List Nat, Vals (pick xs is) (pick us is)
  | [] => .nil
  | i :: is => by
    unfold pick
    rw [List.filterMap_cons, List.filterMap_cons]
    cases e : xs[i]? with
    | none =>
      have e2 : us[i]? = none := by
        rw [List.getElem?_eq_none_iff] at e ⊢
        rw [← h.length]
        exact e
      rw [e2]
      exact pick_vals h is
    | some x =>
      have lt : i < us.length := by
        rw [← h.length]
        exact (List.getElem?_eq_some_iff.mp e).1
      rw [List.getElem?_eq_getElem lt]
      obtain ⟨u, h1, h2⟩ := h.get e
      rw [List.getElem?_eq_getElem lt] at h1
      cases h1
      exact .cons h2 (pick_vals h is)
theorem two_few (n : Nat) : (sliceRange 0 (n : Int) 2).length ≤ n := by
  unfold sliceRange
  rw [List.length_map, List.length_range]
  split <;> first | (split <;> omega) | omega
theorem pe_two {k : Nat} {p1 p2 : Pos} (he : PE X e ua) : PE X (.Subscript e (.Slice none none (some (.Constant (.int 2) k p1)) p2) pos) (tTwo X.K ua) := by
  constructor
  intro pins s σ H Q I h
  apply Subscript_
  refine thn (he.run pins s σ H _ I h) fun v s1 ⟨x, H1, I1, r1, a, xs, ex, hx, q⟩ => ?_
  subst ex
  cases r1
  have two : PO X (some (.Constant (.int 2) k p1)) (tPart (tC (.int 2))) := po_some pe_int
  apply wpAny_Slice
  refine thn (po_none.run pins s1 σ H1 (fun o G => o = none ∧ G = H1) I1 ⟨rfl, rfl⟩) ?_
  rintro v1 s2 ⟨_, _, I2, pl, rfl, rfl⟩
  refine thn (po_none.run pins s2 σ _ (fun o G => o = none ∧ G = _) I2 ⟨rfl, rfl⟩) ?_
  rintro v2 s3 ⟨_, _, I3, pu, rfl, rfl⟩
  refine thn (two.run pins s3 σ _ (fun o G => o = some 2 ∧ G = _) I3 ⟨2, rfl, rfl, rfl⟩) ?_
  rintro v3 s4 ⟨_, H4, I4, ps, rfl, rfl⟩
  have I5 : Inv X pins σ H4 { s4 with heap := s4.heap.push { cls := .type "slice", data := .fields #[v1, v2, v3] } } := I4.kept (t' := s4.toks) fun b ob q => Heap.get?_push_of_some _ q
  obtain ⟨its, r, ht, hz⟩ := I5.list hx
  have len := r.length
  show wpAny (model X.prog X.w) X.A (subscriptTail e (.Slice none none (some (.Constant (.int 2) k p1)) p2) (.ref a) (.ref s4.heap.objs.size)) _ _ _
  apply tail_any (ops := [.ref a, .ref s4.heap.objs.size]) ht.isList.typeIs (PySem.slot_list_getitem.lookup) ?_ (by with_unfolding_all rfl)
  refine wpAny_getItem_list_slice ht.isList (Heap.IsSliceOf.new _ v1 v2 v3) pl pu ps (by decide) ?_ (by rw [List.size_toArray]; omega)
  have ep : slicePick its.toArray none none (some 2) = (pick its (sliceRange 0 (its.length : Int) 2)).toArray := by
    unfold slicePick pick
    have eb : sliceBounds none none (some 2) its.toArray.size = (0, (its.length : Int), 2) := by
      simp [sliceBounds]
    rw [eb]
    show (List.filterMap _ _).toArray = _
    congr 1
    simp
  rw [ep]
  have few : (sliceRange 0 (its.length : Int) 2).length ≤ xs.length := by
    have z := two_few its.length
    omega
  refine ⟨.ref _, _, I5.laid (t' := s4.toks) (o := .lst (pick xs (sliceRange 0 (its.length : Int) 2))) (fun b ob q => Heap.get?_push_of_some _ q) (Nat.le_refl _) ?_, rfl, q _ _ few (I5.hok.fresh (Nat.le_refl _))⟩
  refine ⟨?_, _, 0, pick_vals r _, Heap.get?_push_size _ rfl⟩
  have z : (pick xs (sliceRange 0 (its.length : Int) 2)).length ≤ (sliceRange 0 (its.length : Int) 2).length := List.length_filterMap_le _ _
  omega
theorem RepL.pick {K : PySem.W.Frag} {H : Hp} {vs : List V} {ds : List D} (h : RepL K H vs ds) : ∀ is : List Nat, RepL K H (J.pick vs is) (J.pick ds is)
  | [] => .nil
  | i :: is => by
    unfold J.pick
    rw [List.filterMap_cons, List.filterMap_cons]
    cases e : ds[i]? with
    | none =>
      have e2 : vs[i]? = none := by
        rw [List.getElem?_eq_none_iff] at e ⊢
        rw [h.len]
        exact e
      rw [e2]
      exact h.pick is
    | some x =>
      obtain ⟨v, e2, r⟩ := h.at e
      rw [e2]
      exact .cons r (h.pick is)
def dTwo (ta : DE) : DE := fun δ P => ta δ fun x => match x.un.items with
  | some ds => ∀ is : List Nat, is.length ≤ ds.length → P (.mv (.olst (pick ds is)))
  | none => False
theorem pd_two {k : Nat} {p1 p2 : Pos} (ha : PEd X e ua ta) : PEd X (.Subscript e (.Slice none none (some (.Constant (.int 2) k p1)) p2) pos) (tTwo X.K ua) (dTwo ta) := by
  obtain ⟨a1, a2⟩ := ha
  refine ⟨pe_two a1, fun δ P hT H0 H1 σ Q e env k => a2 δ _ hT H0 H1 σ _ e env fun v x G0 G hx s r => ?_⟩
  obtain ⟨p, o⟩ := r.un
  dsimp only at hx
  cases q : x.un.items with
  | none => rw [q] at hx; exact hx.elim
  | some ds =>
    rw [q] at hx
    obtain ⟨a, vs, rfl, h3, h4⟩ := o.items s.e2 q
    exact ⟨a, vs, rfl, h3, fun is p hl hp => (k.after s).lst s.e2 (hx is (by rw [← h4.len]; exact hl)) (h4.pick is) p hp⟩

/-! ### list(range(n)), list(range(m, n)) -/
def dLrg1 (ta : DE) : DE := fun δ P => ta δ fun x => asI x fun n => 0 ≤ n ∧ n ≤ 100000 ∧ P (.mv (.olst (rng 0 n.toNat)))
def dLrg2 (ta tb : DE) : DE := fun δ P => ta δ fun x => asI x fun m => tb δ fun y => asI y fun n => 0 ≤ m ∧ m ≤ 100000 ∧ 0 ≤ n ∧ n ≤ 100000 ∧ P (.mv (.olst (rng m (n - m).toNat)))
theorem rep_rg {K : PySem.W.Frag} {H : Hp} (m n : Int) : RepL K H (rgV m n) (rng m (n - m).toNat) := by
  have e1 : rgV m n = ((List.range (n - m).toNat).map fun (i : Nat) => m + (i : Int)).map V.int := by
    unfold rgV
    rw [List.map_map]
    rfl
  have e2 : rng m (n - m).toNat = ((List.range (n - m).toNat).map fun (i : Nat) => m + (i : Int)).map D.int := by
    unfold rng
    rw [List.map_map]
    rfl
  rw [e1, e2]
  exact .ofInts _
theorem pd_lrg1 {p p2 pos2 : Pos} (hc : X.calm = true) (hm : X.mg "list" = none) (hm2 : X.mg "range" = none) (ha : PEd X a ua ta) (hg : Gl X "list" := by rfl) (hg2 : Gl X "range" := by rfl) (na : starEach [a] X.env = (false, eval a X.env) :: starEach [] X.env := by rfl)
    (na2 : starEach [.Call (.Name "range" p2) [a] [] pos2] X.env = (false, eval (.Call (.Name "range" p2) [a] [] pos2) X.env) :: starEach [] X.env := by rfl) :
    PEd X (.Call (.Name "list" p) [.Call (.Name "range" p2) [a] [] pos2] [] pos) (tLstRg (tRg1 ua)) (dLrg1 ta) :=
  ⟨pe_listRg hc hg hm (prg_1 hg2 hm2 ha.p na) na2, fun δ P hT H0 H1 σ Q e env k => ha.s δ _ hT H0 H1 σ _ e env fun v x G0 G hx s r => by
    obtain ⟨n, rfl, h0, h1, hp⟩ := asI_inv hx
    refine ⟨n, res_int r, RgOk.of_le (by omega) (by omega) (by omega) h0, (k.after s).lst s.e2 hp ?_⟩
    have z := rep_rg (K := X.K) (H := G0) 0 n
    rw [Int.sub_zero] at z
    exact z⟩
theorem pd_lrg2 {p p2 pos2 : Pos} (hc : X.calm = true) (hm : X.mg "list" = none) (hm2 : X.mg "range" = none) (ha : PEd X a ua ta) (hb : PEd X b ub tb) (hg : Gl X "list" := by rfl) (hg2 : Gl X "range" := by rfl) (na : starEach [a, b] X.env = (false, eval a X.env) :: starEach [b] X.env := by rfl)
    (nb : starEach [b] X.env = (false, eval b X.env) :: starEach [] X.env := by rfl) (hp : (backTo pos2 (starEach [b] X.env)).any (·.1) = false := by rfl)
    (na2 : starEach [.Call (.Name "range" p2) [a, b] [] pos2] X.env = (false, eval (.Call (.Name "range" p2) [a, b] [] pos2) X.env) :: starEach [] X.env := by rfl) :
    PEd X (.Call (.Name "list" p) [.Call (.Name "range" p2) [a, b] [] pos2] [] pos) (tLstRg (tRg2 ua ub)) (dLrg2 ta tb) := by
  refine ⟨pe_listRg hc hg hm (prg_2 hg2 hm2 ha.p hb.p na nb hp) na2, fun δ P hT H0 H1 σ Q e env k => ha.s δ _ hT H0 H1 σ _ e env fun v x G0 G hx s r => ?_⟩
  obtain ⟨m, rfl, hx⟩ := asI_inv hx
  refine hb.s δ _ hx G0 G σ _ s.e2 (env.to s.e0 s.e1) fun w y I0 I hy s2 r2 => ?_
  obtain ⟨n, rfl, h0, h1, h2, h3, hp⟩ := asI_inv hy
  exact ⟨m, n, res_int r, res_int r2, RgOk.of_le h0 (by omega) (by omega) h2, (k.after (s.trans s2)).lst s2.e2 hp (rep_rg m n)⟩

/-! ### sorted(set(xs)), ints -/
def dSset (ta : DE) : DE := fun δ P => ta δ fun x => match x.un.ints with
  | some ns => ns.length ≤ 1000 ∧ ∀ xs : List Int, xs.Pairwise (· < ·) → (∀ k, k ∈ xs ↔ k ∈ ns) → P (.mv (.olst (xs.map .int)))
  | none => False
theorem pd_sset {p p2 q : Pos} (hc : X.calm = true) (hm : X.mg "sorted" = none) (hm2 : X.mg "set" = none) (ha : PEd X a ua ta) (hg : Gl X "sorted" := by rfl) (hg2 : Gl X "set" := by rfl) (na : starEach [a] X.env = (false, eval a X.env) :: starEach [] X.env := by rfl) :
    PEd X (.Call (.Name "sorted" p) [.Call (.Name "set" p2) [a] [] q] [] pos) (SLI.tSS X.K ua) (dSset ta) :=
  ⟨SLI.pe_ss hc hg hm hg2 hm2 ha.p na, fun δ P hT H0 H1 σ Q e env k => ha.s δ _ hT H0 H1 σ _ e env fun v x G0 G hx s r => by
    obtain ⟨p, o⟩ := r.un
    dsimp only at hx
    cases q : x.un.ints with
    | none => rw [q] at hx; exact hx.elim
    | some ns =>
      rw [q] at hx
      obtain ⟨a, rfl, h⟩ := o.ints s.e2 q
      exact ⟨a, ns, rfl, h, hx.1, fun xs p up mem hp => (k.after s).lst s.e2 (hx.2 xs up mem) (.ofInts xs) p hp⟩⟩

/-! ### xs.count(k), xs.index(k), ints -/
def g2I (f : List Int → Int → (D → Prop) → Prop) (x : D) (ds : List D) (P : D → Prop) : Prop := match x.ints, ds with
  | some ns, [.int k] => f ns k P
  | _, _ => False
theorem g2I_inv {f : List Int → Int → (D → Prop) → Prop} {x : D} {ds : List D} {P : D → Prop} (h : g2I f x ds P) : ∃ ns k, x.ints = some ns ∧ ds = [.int k] ∧ f ns k P := by
  unfold g2I at h
  split at h
  · exact ⟨_, _, ‹_›, rfl, h⟩
  · exact h.elim
def dCount (ta : DE) (tr : DA) : DE := fun δ P => ta δ fun x => x.un.ints ≠ none ∧ tr δ fun ds => g2I (fun ns k P => P (.int (ns.count k : Nat))) x.un ds P
def dIndex (ta : DE) (tr : DA) : DE := fun δ P => ta δ fun x => x.un.ints ≠ none ∧ tr δ fun ds => g2I (fun ns k P => k ∈ ns ∧ P (.int (ns.idxOf k : Nat))) x.un ds P
section
variable {ur : TA} {tr : DA}
theorem bm_run {K : PySem.W.Frag} {r : V → List V → Hp → VK → Prop} {f : List Int → Int → (D → Prop) → Prop} (hf : ∀ l H1 (ns : List Int) k P (Q : VK), SqL K H1 l (ns.map V.int) → f ns k P → (∀ j, P (.int j) → Q (.int j) H1) → r (.ref l) [.int k] H1 Q)
    (fP : ∀ ns k P, f ns k P → ∀ P' : D → Prop, (∀ j, P (.int j) → P' (.int j)) → f ns k P') (ha : SndE K ua ta) (hs : SndA K ur tr) {δ : List DV} {P : D → Prop} (hT : ta δ fun x => x.un.ints ≠ none ∧ tr δ fun ds => g2I f x.un ds P) {H0 H1 : Hp} {σ : L2.St} {Q : VK} (e : Same H0 H1) (env : EnvE K H0 H1 δ σ) (k : Kont K H0 H1 P Q) : tBM K "list" r ua ur σ H1 Q := by
  refine ha δ _ hT H0 H1 σ _ e env fun v x G0 G hx s r1 => ?_
  obtain ⟨p, o⟩ := r1.un
  obtain ⟨h0, h1⟩ := hx
  cases q : x.un.ints with
  | none => exact absurd q h0
  | some ns =>
    obtain ⟨a, rfl, h⟩ := o.ints s.e2 q
    refine ⟨.inl ⟨rfl, _, h⟩, hs δ _ h1 G0 G σ _ s.e2 (env.to s.e0 s.e1) fun vs ds I0 I hd s2 al => ?_⟩
    obtain ⟨_, j, e1, rfl, hp⟩ := g2I_inv hd
    rw [q] at e1
    cases e1
    obtain ⟨v, q, rfl, o2⟩ := al1 al
    rw [o2.int]
    exact hf _ _ _ j P Q (s2.e1.seq h) hp fun j hj => (k.after (s.trans s2)).val s2.e2 hj (.int j)
theorem pd_count {e2 : Expr} {apos cpos : Pos} (ha : PEd X a ua ta) (hr : PAd X [e2] ur tr) (hbase : attributeBase a "count" X.env (eval a X.env) = eval a X.env := by rfl) (hline : (apos.endLine == cpos.line) = true := by rfl)
    (hfew : ((backTo cpos (starEach [e2] X.env)).all (fun x => !x.1) && (backToKw cpos (keywordEach [] X.env)).all (fun x => x.1.isSome) && decide ([e2].length + ([] : List Keyword).length + (if ([] : List Keyword).isEmpty then 0 else 1) < 30)) = true := by rfl)
    (hs : starEach [e2] X.env = (false, eval e2 X.env) :: starEach [] X.env := by rfl) (hplain : (backTo cpos (starEach [] X.env)).any (·.1) = false := by rfl) :
    PEd X (.Call (.Attribute a "count" apos) [e2] [] cpos) (tBM X.K "list" (rCntI X.K) ua ur) (dCount ta tr) :=
  ⟨pe_bm PySem.F.plainAttrs_list PySem.F.slot_list_count PySem.F.type_list_count mt_lcount ha.p hr.p hbase hfew hline hs hplain, fun δ P hT H0 H1 σ Q e env k =>
    bm_run (f := fun ns k P => P (.int (ns.count k : Nat))) (fun l H1 ns k P Q h hp q => ⟨l, ns, k, rfl, rfl, h, q _ hp⟩) (fun ns k P h P' g => g _ h) ha.s hr.s hT e env k⟩
theorem idx_at {ns : List Int} {k : Int} (h : k ∈ ns) : ns[ns.idxOf k]? = some k ∧ ∀ (m : Nat) (z : Int), m < ns.idxOf k → ns[m]? = some z → z ≠ k := by
  have lt : ns.idxOf k < ns.length := List.idxOf_lt_length_iff.mpr h
  refine ⟨by rw [List.getElem?_eq_getElem lt, List.getElem_idxOf], fun m z hm hz e => ?_⟩
  have l2 := (List.getElem?_eq_some_iff.mp hz).1
  have := List.not_of_lt_findIdx (p := (· == k)) hm
  obtain ⟨_, e3⟩ := List.getElem?_eq_some_iff.mp hz
  rw [e3, e] at this
  simp at this
theorem pd_index {e2 : Expr} {apos cpos : Pos} (ha : PEd X a ua ta) (hr : PAd X [e2] ur tr) (hbase : attributeBase a "index" X.env (eval a X.env) = eval a X.env := by rfl) (hline : (apos.endLine == cpos.line) = true := by rfl)
    (hfew : ((backTo cpos (starEach [e2] X.env)).all (fun x => !x.1) && (backToKw cpos (keywordEach [] X.env)).all (fun x => x.1.isSome) && decide ([e2].length + ([] : List Keyword).length + (if ([] : List Keyword).isEmpty then 0 else 1) < 30)) = true := by rfl)
    (hs : starEach [e2] X.env = (false, eval e2 X.env) :: starEach [] X.env := by rfl) (hplain : (backTo cpos (starEach [] X.env)).any (·.1) = false := by rfl) :
    PEd X (.Call (.Attribute a "index" apos) [e2] [] cpos) (tBM X.K "list" (rIndex X.K) ua ur) (dIndex ta tr) :=
  ⟨pe_bm PySem.F.plainAttrs_list PySem.F.slot_list_index PySem.F.type_list_index mt_index ha.p hr.p hbase hfew hline hs hplain, fun δ P hT H0 H1 σ Q e env k =>
    bm_run (f := fun ns k P => k ∈ ns ∧ P (.int (ns.idxOf k : Nat))) (fun l H1 ns k P Q h hp q => by
      obtain ⟨h1, h2⟩ := idx_at hp.1
      refine ⟨l, ns.map V.int, .int k, ns.idxOf k, .int k, rfl, rfl, h, rfl, by rw [List.all_map]; exact List.all_eq_true.mpr fun _ _ => rfl, by rw [List.getElem?_map, h1]; rfl, by rw [eqV_int]; simp, fun m z hm hz => ?_, q _ hp.2⟩
      rw [List.getElem?_map] at hz
      cases q : ns[m]? with
      | none => rw [q] at hz; cases hz
      | some y =>
        rw [q] at hz
        cases hz
        rw [eqV_int]
        simpa using h2 m y hm q) (fun ns k P h P' g => ⟨h.1, g _ h.2⟩) ha.s hr.s hT e env k⟩
end

/-! ### y = [..], kept as it is -/
theorem snd_fz {K : PySem.W.Frag} (h : SndE K ua ta) : SndE K ua (dFz ta) := fun δ P hT H0 H1 σ Q e env k => h δ _ hT H0 H1 σ Q e env fun v d G0 G hp s r => by
  cases d with
  | mv d =>
    obtain ⟨I0, s2, r2⟩ := Res.fz s r
    exact k v _ I0 G hp s2 (Res.rep r2)
  | _ => exact k v _ G0 G hp s r
theorem sd_setLcF {elt iter : Expr} {ifs : List Expr} {scope : Scope} {x y : Str} {i j : Nat} {p py : Pos} {spos : Pos} {wi : TI} {Ti : DI} {tt : Shared → Hp → Addr → List (Str × Addr) → List Addr → TT} {Tt : DT} {te : Shared → Hp → Addr → List (Str × Addr) → List Addr → TE} {T : DE} (hc : X.calm = true) (nd : X.N.Nodup) (hi : PId X (.Name x p) iter wi Ti) (ok : BlkOk X.N X.env.scope scope [(x, j)])
    (hg : ∀ (s : Shared) (H : Hp) (C : Addr) (cl : List (Str × Addr)) (fp : List Addr), PG (Blk X scope s H C cl fp) (.Name x p) (gName j)) (ht : ∀ (s : Shared) (H : Hp) (C : Addr) (cl : List (Str × Addr)) (fp : List Addr), PTsd (Blk X scope s H C cl fp) ifs (tt s H C cl fp) Tt)
    (he : ∀ (s : Shared) (H : Hp) (C : Addr) (cl : List (Str × Addr)) (fp : List Addr), PEd (Blk X scope s H C cl fp) elt (te s H C cl fp) T) (hsw : swapsWith (.ListComp elt [⟨.Name x p, iter, ifs, 0⟩] scope pos) (some (.Name y py)) spos.line X.env = pure true) (hy : X.N[i]? = some y := by rfl) (hyl : X.env.scope.names.lookup y = some .local := by rfl)
    (hs : ∀ x, foldedSetIterable iter X.env x = pure x := by intro _; rfl) : PSd X B He (.Assign [.Name y py] (.ListComp elt [⟨.Name x p, iter, ifs, 0⟩] scope pos) spos) (dSet i (dFz (dLc j Ti Tt T))) :=
  sd_asg (ps_setLc (own := [(x, j)]) hc nd hy hyl hsw hi.p ok hg (fun s H C cl fp => pts_all (ht s H C cl fp).p) (fun s H C cl fp => pe_all (he s H C cl fp).p) hs)
    (snd_fz fun δ P h H0 H1 σ Q e env k => snd_lc hi.s (snd_allT fun s H C cl fp => (ht s H C cl fp).s) (snd_allE fun s H C cl fp => (he s H C cl fp).s) h e env k)
end
end J
/-! J13: sets of pairs; what a printed proof is told -/
namespace J
open PySem PySem.Spec PyProof.Rows L2

def two (q : Int × Int) : List Int := [q.1, q.2]
theorem pairs_at {K : PySem.W.Frag} {H : Hp} : ∀ (ps : List (Int × Int)) (vs : List V), RepL K H vs (ps.map pD) → ∃ ks : List (Addr × List Int), vs = ks.map (fun p => V.ref p.1) ∧ ks.map (·.2) = ps.map two ∧ ∀ p ∈ ks, H p.1 = some (.tup (p.2.map V.int))
  | [], _, h => by
    cases h
    exact ⟨[], rfl, rfl, fun p hp => by cases hp⟩
  | q :: ps, _, h => by
    cases h with
    | cons r t =>
      obtain ⟨ks, h1, h2, h3⟩ := pairs_at ps _ t
      cases r with
      | tup a b =>
        have z : [D.int q.1, D.int q.2] = (two q).map D.int := rfl
        rw [z] at b
        rw [b.ints] at a
        refine ⟨(_, two q) :: ks, by rw [h1]; rfl, by rw [List.map_cons, h2]; rfl, fun p hp => ?_⟩
        rcases List.mem_cons.mp hp with e | e
        · rw [e]
          exact a
        · exact h3 p e
theorem two_inj {q r : Int × Int} (h : two q = two r) : q = r := by
  obtain ⟨a, b⟩ := q
  obtain ⟨c, d⟩ := r
  simp only [two, List.cons.injEq, and_true] at h
  rw [h.1, h.2]
theorem rep_pairs {K : PySem.W.Frag} {H : Hp} : ∀ (L : List (Addr × List Int)) (qs : List (Int × Int)), L.map (·.2) = qs.map two → (∀ p ∈ L, H p.1 = some (.tup (p.2.map V.int))) → RepL K H (L.map fun p => V.ref p.1) (qs.map pD)
  | [], [], _, _ => .nil
  | [], _ :: _, h, _ => by cases h
  | _ :: _, [], h, _ => by cases h
  | p :: L, q :: qs, h, k => by
    rw [List.map_cons, List.map_cons, List.cons.injEq] at h
    have z := k p List.mem_cons_self
    rw [h.1] at z
    exact .cons (.tup z (.cons (.int _) (.cons (.int _) .nil))) (rep_pairs L qs h.2 fun r hr => k r (List.mem_cons_of_mem _ hr))
theorem all_two : ∀ (xss : List (List Int)) (ps : List (Int × Int)), (∀ xs ∈ xss, xs ∈ ps.map two) → ∃ qs : List (Int × Int), xss = qs.map two
  | [], _, _ => ⟨[], rfl⟩
  | xs :: xss, ps, h => by
    obtain ⟨q, _, e⟩ := List.mem_map.mp (h xs List.mem_cons_self)
    obtain ⟨qs, e2⟩ := all_two xss ps fun y hy => h y (List.mem_cons_of_mem _ hy)
    exact ⟨q :: qs, by rw [List.map_cons, e, ← e2]⟩
theorem mem_two {q : Int × Int} {ps : List (Int × Int)} : two q ∈ ps.map two ↔ q ∈ ps := by
  constructor
  · intro h
    obtain ⟨r, hr, e⟩ := List.mem_map.mp h
    rw [← two_inj e]
    exact hr
  · exact fun h => List.mem_map.mpr ⟨q, h, rfl⟩
theorem nodup_two {ps : List (Int × Int)} : (ps.map two).Nodup ↔ ps.Nodup := by
  unfold List.Nodup
  rw [List.pairwise_map]
  constructor
  · exact fun h => h.imp fun hab e => hab (by rw [e])
  · exact fun h => h.imp fun hab e => hab (two_inj e)
section
variable {X : Cx} {B He : Hp} {pos : Pos} {a : Expr} {ta : DE} {ua : TE}
/-! ### sorted(set(ps)) -/
def dSsetP (ta : DE) : DE := fun δ P => ta δ fun x => ∃ ps : List (Int × Int), x.un.items = some (ps.map pD) ∧ ps.length < 64 ∧ (∀ q ∈ ps, (0 ≤ q.1 ∧ q.1 < 64) ∧ (0 ≤ q.2 ∧ q.2 < 64)) ∧ ∀ qs : List (Int × Int), qs.Nodup → (∀ q, q ∈ qs ↔ q ∈ ps) → P (.mv (.olst (qs.map pD)))
abbrev tSsetP (K : PySem.W.Frag) (P : Program) (w : World) (ua : TE) : TE := tCB (rSortedT K P w) (tCons (tCB (rSetOfT K P w) (tCons ua tNil)) tNil)
theorem snd_ssetP {K : PySem.W.Frag} {pg : Program} {w : World} (ha : SndE K ua ta) : SndE K (tSsetP K pg w ua) (dSsetP ta) := fun δ P hT H0 H1 σ Q e env k => by
  refine ha δ _ hT H0 H1 σ _ e env fun v x G0 G hx s r => ?_
  obtain ⟨ps, hi, few, bd, hp⟩ := hx
  obtain ⟨p, o⟩ := r.un
  obtain ⟨l, vs, rfl, h1, h2⟩ := o.items s.e2 hi
  obtain ⟨ks, rfl, e2, h3⟩ := pairs_at ps vs h2
  have lk : ks.length = ps.length := by
    have z := congrArg List.length e2
    rwa [List.length_map, List.length_map] at z
  refine ⟨l, ks, rfl, h1, fun p hp => .of (s.e2 _ _ (h3 p hp)), by omega, fun sa L hn sub all => ?_⟩
  have inn : ∀ p ∈ L, ∃ q ∈ ps, p.2 = two q := fun p hp => by
    have z : p.2 ∈ ks.map (·.2) := List.mem_map.mpr ⟨p, sub p hp, rfl⟩
    rw [e2] at z
    obtain ⟨q, h, e⟩ := List.mem_map.mp z
    exact ⟨q, h, e.symm⟩
  refine ⟨sa, L, 2, 64, rfl, upd_same, fun p hp => ?_, by decide, fun p hp => ?_, fun L' pa pm nd few' up hn2 => ?_⟩
  · refine .of ?_
    rw [upd_ne (ne_of_none (s.e2 _ _ (h3 p (sub p hp))) hn)]
    exact s.e2 _ _ (h3 p (sub p hp))
  · obtain ⟨q, hq, e⟩ := inn p hp
    rw [e]
    refine ⟨rfl, fun m hm => ?_⟩
    have b := bd q hq
    simp only [two, List.mem_cons, List.not_mem_nil, or_false] at hm
    rcases hm with rfl | rfl
    · exact b.1
    · exact b.2
  · obtain ⟨qs, eq⟩ := all_two (L'.map (·.2)) ps fun xs hxs => by
      obtain ⟨p, hp, rfl⟩ := List.mem_map.mp hxs
      obtain ⟨q, hq, e⟩ := inn p (pm.mem_iff.mp hp)
      exact List.mem_map.mpr ⟨q, hq, e.symm⟩
    have mem : ∀ q, q ∈ qs ↔ q ∈ ps := fun q => by
      rw [← mem_two, ← eq, ← mem_two (ps := ps), ← e2]
      constructor
      · intro h
        obtain ⟨p, hp, e⟩ := List.mem_map.mp h
        exact List.mem_map.mpr ⟨p, sub p (pm.mem_iff.mp hp), e⟩
      · intro h
        obtain ⟨p, hp, e⟩ := List.mem_map.mp h
        have z := all p hp
        rw [e] at z
        obtain ⟨p2, hp2, e3⟩ := List.mem_map.mp z
        exact List.mem_map.mpr ⟨p2, pm.mem_iff.mpr hp2, e3⟩
    have st : Step G0 G G0 (upd G sa (SetTO pg w sa L)) := Step.newO s.e2 hn
    refine (k.after (s.trans st)).lst st.e2 (hp qs (nodup_two.mp (by rw [← eq]; exact nd)) mem) ?_ pa hn2
    exact rep_pairs L' qs eq fun p hp => h3 p (sub p (pm.mem_iff.mp hp))
theorem pd_ssetP {p p2 q : Pos} (hc : X.calm = true) (hu : X.A.units + 64 < cLine) (hm : X.mg "sorted" = none) (hm2 : X.mg "set" = none) (ha : PEd X a ua ta) (hg : Gl X "sorted" := by rfl) (hg2 : Gl X "set" := by rfl) (na : starEach [a] X.env = (false, eval a X.env) :: starEach [] X.env := by rfl)
    (nb : (backTo q (starEach [] X.env)).any (·.1) = false := by rfl) (nc : starEach [.Call (.Name "set" p2) [a] [] q] X.env = (false, eval (.Call (.Name "set" p2) [a] [] q) X.env) :: starEach [] X.env := by rfl) (nd : (backTo pos (starEach [] X.env)).any (·.1) = false := by rfl) :
    PEd X (.Call (.Name "sorted" p) [.Call (.Name "set" p2) [a] [] q] [] pos) (tSsetP X.K X.prog X.w ua) (dSsetP ta) :=
  ⟨pe_callB (cr_sortedT hc) hg hm boot_sorted (pa_cons (pe_callTy (cr_setOfT hc hu) hg2 hm2 PyProof.Rows.boot_set (pa_cons ha.p pa_nil na) (by decide) (by decide) na nb) pa_nil nc) (by decide) (by decide) nc nd, snd_ssetP ha.s⟩

/-! ### len(set(ps)), no two alike -/
def tLT (K : PySem.W.Frag) (ua : TE) : TE := fun σ H Q => ua σ H fun x H1 => ∃ (l : Addr) (ks : List (Addr × List Int)), x = V.ref l ∧ SqL K H1 l (ks.map fun p => V.ref p.1) ∧ (∀ p ∈ ks, SqT K H1 p.1 (p.2.map V.int)) ∧ ks.length < 64 ∧ (ks.map (·.2)).Nodup ∧ Q (.int ks.length) H1
theorem same_len {α : Type} [DecidableEq α] {xs ys : List α} (h1 : xs.Nodup) (h2 : ys.Nodup) (h : ∀ x, x ∈ xs ↔ x ∈ ys) : xs.length = ys.length :=
  ((List.perm_ext_iff_of_nodup h1 h2).mpr h).length_eq
theorem pe_lt {p p2 q : Pos} (hc : X.calm = true) (hu : X.A.units + 64 < cLine) (hg : Gl X "len") (hm : X.mg "len" = none) (hg2 : Gl X "set") (hm2 : X.mg "set" = none) (ha : PE X a ua) (na : starEach [a] X.env = (false, eval a X.env) :: starEach [] X.env := by rfl) :
    PE X (.Call (.Name "len" p) [.Call (.Name "set" p2) [a] [] q] [] pos) (tLT X.K ua) := by
  constructor
  intro pins s σ H Q I h
  apply Call_ (ld_blt I hg hm PySem.boot_len ?_)
  refine PyProof.Rows.callWith_builtin1 (PyProof.Rows.args_cons ?_ rfl) rfl rfl
  apply Call_ (ld_blt I hg2 hm2 PyProof.Rows.boot_set ?_)
  refine PyProof.Rows.callWith_type1 (PyProof.Rows.args_cons (thn (ha.run pins s σ H _ I h) ?_) na) na rfl
  rintro v s1 ⟨x, H1, I1, r1, l, ks, rfl, hq, ht, few, nd, k⟩
  cases r1
  apply PyProof.Rows.args_nil
  have ⟨its, r, pl, hz⟩ := I1.list hq
  refine call_set_tups (P := X.prog) (w := X.w) ks (I1.ok.hd hc) pl.isList (by simpa using refs_of_vals r) (fun p hp => I1.isT (ht p hp)) few (by omega) fun h' tk L es ep t R g keep => ?_
  apply PyProof.Rows.args_nil
  have I2 : Inv X pins σ H1 { s1 with heap := h', toks := tk } := I1.kept keep
  have size : es.size = ks.length := by
    rw [SetTR.size (s := { s1 with heap := h', toks := tk }) R]
    have z := same_len R.nd nd fun xs => by
      constructor
      · intro h
        obtain ⟨p, hp, e⟩ := List.mem_map.mp h
        exact List.mem_map.mpr ⟨p, List.mem_of_mem_take (g.sub p hp), e⟩
      · intro h
        obtain ⟨p, hp, e⟩ := List.mem_map.mp h
        rw [← e]
        exact g.all p (by rw [List.take_length]; exact hp)
    rwa [List.length_map, List.length_map] at z
  obtain ⟨o, ho, hex, hd⟩ := R.ob
  have fits : t.fits es.size = true := SetTR.fits (s := { s1 with heap := h', toks := tk }) R
  exact call_len_set ho hex hd fits (by rw [size]; omega) ⟨.int ks.length, H1, I2.tok _, ⟨_, by rw [size]⟩, k⟩
def dLset (ta : DE) : DE := fun δ P => ta δ fun x => ∃ ps : List (Int × Int), x.un.items = some (ps.map pD) ∧ ps.length < 64 ∧ ps.Nodup ∧ P (.int (ps.length : Nat))
theorem pd_lset {p p2 q : Pos} (hc : X.calm = true) (hu : X.A.units + 64 < cLine) (hm : X.mg "len" = none) (hm2 : X.mg "set" = none) (ha : PEd X a ua ta) (hg : Gl X "len" := by rfl) (hg2 : Gl X "set" := by rfl) (na : starEach [a] X.env = (false, eval a X.env) :: starEach [] X.env := by rfl) :
    PEd X (.Call (.Name "len" p) [.Call (.Name "set" p2) [a] [] q] [] pos) (tLT X.K ua) (dLset ta) :=
  ⟨pe_lt hc hu hg hm hg2 hm2 ha.p na, fun δ P hT H0 H1 σ Q e env k => ha.s δ _ hT H0 H1 σ _ e env fun v x G0 G hx s r => by
    obtain ⟨ps, hi, few, nd, hp⟩ := hx
    obtain ⟨p, o⟩ := r.un
    obtain ⟨l, vs, rfl, h1, h2⟩ := o.items s.e2 hi
    obtain ⟨ks, rfl, e2, h3⟩ := pairs_at ps vs h2
    have lk : ks.length = ps.length := by
      have z := congrArg List.length e2
      rwa [List.length_map, List.length_map] at z
    exact ⟨l, ks, rfl, h1, fun p hp => .of (s.e2 _ _ (h3 p hp)), by omega, by rw [e2]; exact nodup_two.mpr nd, (k.after s).val s.e2 hp (by rw [lk]; exact .int _)⟩⟩
end
end J
/-! J14: small equations for readings -/
namespace J
open PySem PySem.Spec PyProof.Rows L2
section
variable {a b : Int} {p q : Bool} {x : Str} {ds : List D} {dss : List (List D)} {C : Addr} {gs : List (Str × D)} {ks : List (Int × Int)} {ns : List Int} {n : Int} {d : D} {δ : List DV}
theorem un_non : D.un .non = .non := rfl
theorem un_int : D.un (.int a) = .int a := rfl
theorem un_bl : D.un (.bl p) = .bl p := rfl
theorem un_str : D.un (.str x) = .str x := rfl
theorem un_lst : D.un (.lst ds) = .lst ds := rfl
theorem un_tup : D.un (.tup ds) = .tup ds := rfl
theorem un_obj : D.un (.obj C gs) = .obj C gs := rfl
theorem un_dct : D.un (.dct ks) = .dct ks := rfl
theorem un_scr : D.un (.scr ns) = .scr ns := rfl
theorem un_olst : D.un (.olst ds) = .olst ds := rfl
theorem un_oll : D.un (.oll dss) = .oll dss := rfl
theorem un_oobj : D.un (.oobj C gs) = .oobj C gs := rfl
theorem un_mv : D.un (.mv d) = d := rfl
theorem un_m : D.un (mD C n ks) = mD C n ks := rfl
theorem un_p {r : Int × Int} : D.un (pD r) = pD r := rfl
theorem pl_non : D.plain .non = true := rfl
theorem pl_int : D.plain (.int a) = true := rfl
theorem pl_bl : D.plain (.bl p) = true := rfl
theorem pl_str : D.plain (.str x) = true := rfl
theorem pl_lst : D.plain (.lst ds) = true := rfl
theorem pl_tup : D.plain (.tup ds) = true := rfl
theorem pl_obj : D.plain (.obj C gs) = true := rfl
theorem pl_dct : D.plain (.dct ks) = true := rfl
theorem pl_scr : D.plain (.scr ns) = true := rfl
theorem pl_m : D.plain (mD C n ks) = true := rfl
theorem pl_p {r : Int × Int} : D.plain (pD r) = true := rfl
/-- kept as it is -/
def fzm : D → D
  | .mv d => frz (.mv d)
  | d => d
theorem dFz_eq {ta : DE} : dFz ta = fun δ P => ta δ fun x => P (fzm x) := rfl
theorem fzm_non : fzm .non = .non := rfl
theorem fzm_int : fzm (.int a) = .int a := rfl
theorem fzm_bl : fzm (.bl p) = .bl p := rfl
theorem fzm_lst : fzm (.lst ds) = .lst ds := rfl
theorem fzm_tup : fzm (.tup ds) = .tup ds := rfl
theorem fzm_obj : fzm (.obj C gs) = .obj C gs := rfl
theorem fzm_scr : fzm (.scr ns) = .scr ns := rfl
theorem fzm_olst : fzm (.mv (.olst ds)) = .lst ds := rfl
theorem fzm_oll : fzm (.mv (.oll dss)) = .lst (dss.map .lst) := rfl
theorem fzm_oobj : fzm (.mv (.oobj C gs)) = .obj C (gs.map fun g => (g.1, frz1 g.2)) := rfl
theorem fzm_m : fzm (mD C n ks) = mD C n ks := rfl
theorem frz_non : frz .non = .non := rfl
theorem frz_int : frz (.int a) = .int a := rfl
theorem frz_bl : frz (.bl p) = .bl p := rfl
theorem frz_str : frz (.str x) = .str x := rfl
theorem frz_lst : frz (.lst ds) = .lst ds := rfl
theorem frz_tup : frz (.tup ds) = .tup ds := rfl
theorem frz_obj : frz (.obj C gs) = .obj C gs := rfl
theorem frz_dct : frz (.dct ks) = .dct ks := rfl
theorem frz_scr : frz (.scr ns) = .scr ns := rfl
theorem frz_olst : frz (.olst ds) = .lst ds := rfl
theorem frz_oll : frz (.oll dss) = .lst (dss.map .lst) := rfl
theorem frz_m : frz (mD C n ks) = mD C n ks := rfl
theorem fz_no : DV.fz .no = .no := rfl
theorem fz_tr : DV.fz (.tr d) = .tr (frz d) := rfl
theorem see_no : DV.see .no = none := rfl
theorem see_tr : DV.see (.tr d) = some d := rfl
theorem asB_bl {P : Bool → Prop} : asB (.bl p) P = P p := rfl
theorem asI_int {P : Int → Prop} : asI (.int a) P = P a := rfl
theorem asgD_non {P : D → Prop} : asgD .non P = P .non := rfl
theorem asgD_int {P : D → Prop} : asgD (.int a) P = P (.int a) := rfl
theorem asgD_bl {P : D → Prop} : asgD (.bl p) P = P (.bl p) := rfl
theorem asgD_lst {P : D → Prop} : asgD (.lst ds) P = P (.lst ds) := rfl
theorem asgD_tup {P : D → Prop} : asgD (.tup ds) P = P (.tup ds) := rfl
theorem asgD_obj {P : D → Prop} : asgD (.obj C gs) P = P (.obj C gs) := rfl
theorem asgD_mv {P : D → Prop} : asgD (.mv d) P = P d := rfl
theorem asgD_m {P : D → Prop} : asgD (mD C n ks) P = P (mD C n ks) := rfl
theorem it_lst : D.items (.lst ds) = some ds := rfl
theorem it_olst : D.items (.olst ds) = some ds := rfl
theorem it_scr : D.items (.scr ns) = some (ns.map .int) := rfl
theorem li_lst : D.list (.lst ds) = some ds := rfl
theorem li_olst : D.list (.olst ds) = some ds := rfl
theorem pit_lst : D.pit (.lst ds) = some ds := rfl
theorem pit_scr : D.pit (.scr ns) = some (ns.map .int) := rfl
theorem sz_lst : D.size (.lst ds) = some ds.length := rfl
theorem sz_olst : D.size (.olst ds) = some ds.length := rfl
theorem sz_oll : D.size (.oll dss) = some dss.length := rfl
theorem sz_scr : D.size (.scr ns) = some ns.length := rfl
theorem sz_tup : D.size (.tup ds) = some ds.length := rfl
theorem ad_int {P : D → Prop} : gAdd (.int a) (.int b) P = P (.int (a + b)) := rfl
theorem ad_ll {es : List D} {P : D → Prop} : gAdd (.lst ds) (.lst es) P = (ds.length + es.length ≤ 100000 ∧ P (.mv (.olst (ds ++ es)))) := rfl
theorem ad_oo {es : List D} {P : D → Prop} : gAdd (.olst ds) (.olst es) P = (ds.length + es.length ≤ 100000 ∧ P (.mv (.olst (ds ++ es)))) := rfl
theorem ad_lo {es : List D} {P : D → Prop} : gAdd (.lst ds) (.olst es) P = (ds.length + es.length ≤ 100000 ∧ P (.mv (.olst (ds ++ es)))) := rfl
theorem ad_ol {es : List D} {P : D → Prop} : gAdd (.olst ds) (.lst es) P = (ds.length + es.length ≤ 100000 ∧ P (.mv (.olst (ds ++ es)))) := rfl
theorem mu_int {P : D → Prop} : gMul (.int a) (.int b) P = (CMul a b ∧ P (.int (a * b))) := rfl
theorem mu_l {P : D → Prop} : gMul (.lst ds) (.int b) P = (0 ≤ b ∧ b ≤ 1000 ∧ ds.length ≤ 1000 ∧ P (.mv (.olst (List.replicate b.toNat ds).flatten))) := rfl
theorem mu_o {P : D → Prop} : gMul (.olst ds) (.int b) P = (0 ≤ b ∧ b ≤ 1000 ∧ ds.length ≤ 1000 ∧ P (.mv (.olst (List.replicate b.toNat ds).flatten))) := rfl
theorem gI_int {F : Int → Int → Prop} {f : Int → Int → D} {P : D → Prop} : gI F f (.int a) (.int b) P = (F a b ∧ P (f a b)) := rfl
theorem gI0_int {f : Int → Int → D} {P : D → Prop} : gI0 f (.int a) (.int b) P = P (f a b) := rfl
theorem gI2_int {f : Int → Int → Int} {P : D → Prop} : gI2 f [.int a, .int b] P = P (.int (f a b)) := rfl
/-- xs[i] -/
def ixP (ds : List D) (i : Int) (P : D → Prop) : Prop := ∃ d, atI ds i = some d ∧ P d
theorem ix_lst {P : D → Prop} (h : ixP ds a P) : gIx (.lst ds) (.int a) P := by
  obtain ⟨d, e, h⟩ := h
  show (match atI ds a with
    | some d => P d
    | none => False)
  rw [e]
  exact h
theorem ix_olst {P : D → Prop} (h : ixP ds a P) : gIx (.olst ds) (.int a) P := ix_lst h
theorem ix_tup {P : D → Prop} (h : ixP ds a P) : gIx (.tup ds) (.int a) P := ix_lst h
theorem ix_scr {P : D → Prop} (h : ixP (ns.map .int) a P) : gIx (.scr ns) (.int a) P := ix_lst h
theorem at_nat {α : Type} {xs : List α} {i : Nat} {y : α} (h : xs[i]? = some y) : atI xs (i : Int) = some y := by
  have lt := (List.getElem?_eq_some_iff.mp h).1
  have e : ixN xs.length (i : Int) = some i := by
    unfold ixN
    rw [if_pos (by omega), if_pos (by omega)]
    rfl
  unfold atI
  rw [e]
  exact h
theorem at_zero {α : Type} {x : α} {xs : List α} : atI (x :: xs) 0 = some x := at_nat (i := 0) rfl
theorem ii_eqv : PyData.eqv (D.py (.int a)) (D.py (.int b)) = decide (a = b) := rfl
theorem co_int : D.cmpOk (.int a) = true := rfl
theorem co_bl : D.cmpOk (.bl p) = true := rfl
theorem co_non : D.cmpOk .non = true := rfl
end
end J
/-! J15: rows and pairs compared -/
namespace J
open PySem PySem.Spec PyProof.Rows L2
theorem pyL_map {α : Type} (f : α → D) : ∀ xs : List α, pyL (xs.map f) = xs.map fun x => (f x).py
  | [] => rfl
  | x :: xs => by
    show (f x).py :: pyL (xs.map f) = _
    rw [pyL_map f xs]
    rfl
theorem pyL_any {α : Type} (f : α → D) (xs : List α) (p : PyData → Bool) : (pyL (xs.map f)).any p = xs.any fun x => p (f x).py := by
  rw [pyL_map, List.any_map]
  rfl
/-- may be compared, how deep -/
def Cm (d : D) (n : Nat) : Prop := d.isPy = true ∧ d.py.canLay0 = true ∧ d.py.depth ≤ n
theorem Cm.ok {d : D} {n : Nat} (h : Cm d n) (hn : n ≤ 64) : d.cmpOk = true := by
  unfold D.cmpOk SeqAt.shaped
  rw [h.1, h.2.1, decide_eq_true (Nat.le_trans h.2.2 hn)]
  rfl
theorem cm_int (a : Int) : Cm (.int a) 0 := ⟨rfl, rfl, Nat.le_refl _⟩
theorem cm_bl (a : Bool) : Cm (.bl a) 0 := ⟨rfl, rfl, Nat.le_refl _⟩
theorem Cm.mono {d : D} {n m : Nat} (h : Cm d n) (e : n ≤ m) : Cm d m := ⟨h.1, h.2.1, Nat.le_trans h.2.2 e⟩
theorem cmL {n : Nat} : ∀ ds : List D, (∀ d ∈ ds, Cm d n) → isPyL ds = true ∧ PyData.canLayAll0 (pyL ds) = true ∧ PyData.depthAll (pyL ds) ≤ n
  | [], _ => ⟨rfl, rfl, Nat.zero_le _⟩
  | d :: ds, h => by
    obtain ⟨a, b, c⟩ := h d List.mem_cons_self
    obtain ⟨a2, b2, c2⟩ := cmL ds fun e he => h e (List.mem_cons_of_mem _ he)
    refine ⟨?_, ?_, ?_⟩
    · show (d.isPy && isPyL ds) = true
      rw [a, a2] <;> rfl
    · show (PyData.canLay0 d.py && PyData.canLayAll0 (pyL ds)) = true
      rw [b, b2] <;> rfl
    · show max (PyData.depth d.py) (PyData.depthAll (pyL ds)) ≤ n
      omega
theorem cm_lst {n : Nat} {ds : List D} (h : ∀ d ∈ ds, Cm d n) : Cm (.lst ds) (n + 1) := by
  obtain ⟨a, b, c⟩ := cmL ds h
  exact ⟨a, b, Nat.succ_le_succ c⟩
theorem cm_olst {n : Nat} {ds : List D} (h : ∀ d ∈ ds, Cm d n) : Cm (.olst ds) (n + 1) := by
  obtain ⟨a, b, c⟩ := cmL ds h
  exact ⟨a, b, Nat.succ_le_succ c⟩
theorem cm_tup {n : Nat} {ds : List D} (h : ∀ d ∈ ds, Cm d n) : Cm (.tup ds) (n + 1) := by
  obtain ⟨a, b, c⟩ := cmL ds h
  exact ⟨a, b, Nat.succ_le_succ c⟩
theorem cm_map {α : Type} {n : Nat} {f : α → D} (h : ∀ x, Cm (f x) n) (xs : List α) : ∀ d ∈ xs.map f, Cm d n := fun d hd => by
  obtain ⟨x, _, rfl⟩ := List.mem_map.mp hd
  exact h x
theorem cm_p (q : Int × Int) : Cm (pD q) 1 := cm_tup fun d hd => by
  simp only [List.mem_cons, List.not_mem_nil, or_false] at hd
  rcases hd with rfl | rfl <;> exact cm_int _
theorem cm_row (xs : List Int) : Cm (rD xs) 1 := cm_lst (cm_map cm_int xs)
theorem cm_rowO (xs : List Int) : Cm (.olst (xs.map .int)) 1 := cm_olst (cm_map cm_int xs)
theorem co_row {xs : List Int} : D.cmpOk (.lst (xs.map .int)) = true := (cm_row xs).ok (by decide)
theorem co_rowO {xs : List Int} : D.cmpOk (.olst (xs.map .int)) = true := (cm_rowO xs).ok (by decide)
theorem co_nil : D.cmpOk (.lst []) = true := rfl
theorem co_nilO : D.cmpOk (.olst []) = true := rfl
theorem co_ps {ps : List (Int × Int)} : D.cmpOk (.lst (ps.map pD)) = true := (cm_lst (cm_map cm_p ps)).ok (by decide)
theorem co_p {q : Int × Int} : D.cmpOk (pD q) = true := (cm_p q).ok (by decide)
theorem co_p2 {a b : Int} : D.cmpOk (.tup [.int a, .int b]) = true := (cm_p (a, b)).ok (by decide)
theorem co_rows {xss : List (List Int)} : D.cmpOk (.lst (xss.map rD)) = true := (cm_lst (cm_map cm_row xss)).ok (by decide)
theorem eqAll_map {α : Type} [DecidableEq α] {g : α → PyData} (h : ∀ x y, PyData.eqv (g x) (g y) = decide (x = y)) : ∀ xs ys : List α, PyData.eqvAll (xs.map g) (ys.map g) = decide (xs = ys)
  | [], [] => rfl
  | [], _ :: _ => rfl
  | _ :: _, [] => rfl
  | x :: xs, y :: ys => by
    show (PyData.eqv (g x) (g y) && PyData.eqvAll (xs.map g) (ys.map g)) = _
    rw [h, eqAll_map h]
    by_cases e : x = y
    · by_cases e2 : xs = ys <;> simp [e, e2]
    · simp [e]
theorem ev_int (a b : Int) : PyData.eqv (.int a) (.int b) = decide (a = b) := rfl
theorem py_row (xs : List Int) : D.py (rD xs) = .list (xs.map PyData.int) := by
  show PyData.list (pyL (xs.map .int)) = _
  rw [pyL_map]
  rfl
theorem py_rowO (xs : List Int) : D.py (.olst (xs.map .int)) = .list (xs.map PyData.int) := py_row xs
theorem ev_rows (xs ys : List Int) : PyData.eqv (.list (xs.map PyData.int)) (.list (ys.map PyData.int)) = decide (xs = ys) := eqAll_map ev_int xs ys
theorem ev_ll {xs ys : List Int} : PyData.eqv (D.py (.lst (xs.map .int))) (D.py (.lst (ys.map .int))) = decide (xs = ys) := by rw [py_row, py_row, ev_rows]
theorem ev_ol {xs ys : List Int} : PyData.eqv (D.py (.olst (xs.map .int))) (D.py (.lst (ys.map .int))) = decide (xs = ys) := by rw [py_row, py_rowO, ev_rows]
theorem ev_lo {xs ys : List Int} : PyData.eqv (D.py (.lst (xs.map .int))) (D.py (.olst (ys.map .int))) = decide (xs = ys) := by rw [py_row, py_rowO, ev_rows]
theorem ev_oo {xs ys : List Int} : PyData.eqv (D.py (.olst (xs.map .int))) (D.py (.olst (ys.map .int))) = decide (xs = ys) := by rw [py_rowO, py_rowO, ev_rows]
theorem ev_ln {xs : List Int} : PyData.eqv (D.py (.lst (xs.map .int))) (D.py (.lst [])) = decide (xs = []) := ev_ll (ys := [])
theorem ev_lno {xs : List Int} : PyData.eqv (D.py (.lst (xs.map .int))) (D.py (.olst [])) = decide (xs = []) := ev_lo (ys := [])
theorem ev_on {xs : List Int} : PyData.eqv (D.py (.olst (xs.map .int))) (D.py (.lst [])) = decide (xs = []) := ev_ol (ys := [])
theorem ev_ono {xs : List Int} : PyData.eqv (D.py (.olst (xs.map .int))) (D.py (.olst [])) = decide (xs = []) := ev_oo (ys := [])
theorem ev_p (q r : Int × Int) : PyData.eqv (D.py (pD q)) (D.py (pD r)) = decide (q = r) := by
  obtain ⟨a, b⟩ := q
  obtain ⟨c, d⟩ := r
  show (PyData.eqv (.int a) (.int c) && (PyData.eqv (.int b) (.int d) && true)) = _
  rw [ev_int, ev_int, Bool.and_true, ← Bool.decide_and]
  congr 1
  simp
theorem ev_p2 {a b : Int} {q : Int × Int} : PyData.eqv (D.py (pD q)) (D.py (.tup [.int a, .int b])) = decide (q = (a, b)) := ev_p q (a, b)
theorem any_eq {α : Type} [DecidableEq α] (xs : List α) (a : α) : (xs.any fun x => decide (x = a)) = decide (a ∈ xs) := by
  rw [Bool.eq_iff_iff]
  simp
theorem in_ps {ps : List (Int × Int)} {a b : Int} : ((pyL (ps.map pD)).any fun z => PyData.eqv z (D.py (.tup [.int a, .int b]))) = decide ((a, b) ∈ ps) := by
  rw [pyL_any]
  simp only [ev_p2]
  rw [Bool.eq_iff_iff]
  simp
theorem in_row {xs : List Int} {a : Int} : ((pyL (xs.map .int)).any fun z => PyData.eqv z (D.py (.int a))) = decide (a ∈ xs) := by
  rw [pyL_any]
  show (xs.any fun x => PyData.eqv (.int x) (.int a)) = _
  simp only [ev_int]
  exact any_eq xs a
/-! ### one round of a loop -/
theorem forGo_op {t : DG} {T : DS} {E : EndsD} {d : D} {ds : List D} {δ : List DV} (g : ∀ N, N = forGo t T E ds → t d δ fun δ' => T { nx := N, rt := E.rt, bk := E.nx, ct := N } δ') : forGo t T E (d :: ds) δ := g _ rfl
theorem compGo_op {j : Nat} {tt : DT} {te : DE} {P : D → Prop} {d : D} {ds acc : List D} {δ : List DV} (g : ∀ N, N = compGo j tt te P ds → tt (δ.set j (.tr d)) fun b => match b with
  | true => te (δ.set j (.tr d)) fun y => y.plain = true ∧ acc.length ≤ 100000 ∧ N (acc ++ [y]) δ
  | false => N acc δ) : compGo j tt te P (d :: ds) acc δ := g _ rfl
theorem whileGo_op {t : DT} {T : DS} {E : EndsD} {n : Nat} {δ : List DV} (g : ∀ N, N = whileGo t T E n → t δ fun b => match b with
  | true => T { nx := N, rt := E.rt, bk := E.nx, ct := N } δ
  | false => E.nx δ) : whileGo t T E (n + 1) δ := g _ rfl
end J
/-! J16: self.table = {}, for pair in pairs: self.table[pair] = True -/
namespace J
open PySem PySem.Spec PyProof.Rows L2
theorem tab_put {ps : List (Int × Int)} {q : Int × Int} (h : q ∉ ps) : putK (tab ps) [Sum.inl q.1, Sum.inl q.2] (V.bl true) = tab (ps ++ [q]) := by
  unfold putK
  rw [if_neg]
  · unfold tab
    rw [List.map_append]
    rfl
  · rw [List.any_eq_true]
    rintro ⟨kv, hkv, e⟩
    obtain ⟨r, hr, rfl⟩ := List.mem_map.mp hkv
    have e2 := of_decide_eq_true e
    simp only [List.cons.injEq, Sum.inl.injEq, and_true] at e2
    apply h
    have e3 : r = q := Prod.ext e2.1 e2.2
    rwa [← e3]
theorem step_none {H0 H1 G0 G : Hp} (s : Step H0 H1 G0 G) {a : Addr} {o : HO} (h : H1 a = some o) (n : H0 a = none) : G0 a = none := by
  cases q : G0 a with
  | none => rfl
  | some u =>
    have z := s.fr a u q n
    rw [h] at z
    cases z
section
variable {K : PySem.W.Frag} {C : Addr} {B He H0 H : Hp} {δ : List DV} {σ : L2.St} {x : Addr} {gs : List (Str × D)} {D' : Ends}
/-- self.table = {}; for pair in pairs: self.table[pair] = True; i: where pairs stands, j: where pair -/
theorem ini_table {wi : TI} {Ti : DI} {j : Nat} {ps : List (Int × Int)} (h : InI K C B He H0 δ σ H x gs) (ok : FldOk K C "table") (hl : gs.lookup ("table" : Str) = none) (hz : gs.length ≤ 100) (hi : SndI K wi Ti) (hT : Ti δ fun ds => ds = ps.map pD) (nd : ps.Nodup) (few : ps.length < 64)
    (hj : (δ[j]?).bind DV.see = none) (hj0 : j ≠ 0) (hjl : j < δ.length) (k : ∀ G0 G σ', InI K C B He G0 δ σ' G x (gs ++ [(("table" : Str), D.dct ps)]) → D'.nx σ' G) :
    tSeq (sFld K (tVar 0) tDNewT "table") (tFor wi (gName j) (sDPut (tFld K (tVar 0) "table") (tVar j) (tC (.bl true)))) D' σ H := by
  intro p hp
  obtain ⟨dx, fs, p0, ho, hf, fr⟩ := h.obj
  have xp : x ≠ p := fun e => by rw [e, hp] at ho; cases ho
  have xp0 : x ∉ p0 := (List.nodup_cons.mp fr.1).1
  have np0 : p ∉ p0 := fun z => by
    obtain ⟨u, hu⟩ := hf.there p z
    rw [hp] at hu
    cases hu
  have H0p : H0 p = none := h.st.e2.free hp
  have Bp : B p = none := h.st.e1.free hp
  have H0x : H0 x = none := (fr.2 x List.mem_cons_self).1
  have Bx : B x = none := (fr.2 x List.mem_cons_self).2
  refine ⟨.ref x, h.me, x, C, dx, fs, rfl, by rw [upd_ne xp]; exact ho, ok.cls, ok.no, by rw [hf.len]; omega, ?_⟩
  have pf0 : putF "table" (.ref p) fs = fs ++ [(("table" : Str), V.ref p)] := putF_new (hf.none hl)
  rw [pf0]
  generalize hX : (HO.ins C dx (fs ++ [(("table" : Str), V.ref p)])) = X
  have at0 : ∀ a, a ≠ p → a ≠ x → upd (upd H p (.dT [])) x X a = H a := fun a h1 h2 => by rw [upd_ne h2, upd_ne h1]
  have same0 : Same H0 (upd (upd H p (.dT [])) x X) := fun a o q => by
    rw [at0 a (fun e => by rw [e, H0p] at q; cases q) (fun e => by rw [e, H0x] at q; cases q)]
    exact h.st.e2 a o q
  have sameB : Same B (upd (upd H p (.dT [])) x X) := fun a o q => by
    rw [at0 a (fun e => by rw [e, Bp] at q; cases q) (fun e => by rw [e, Bx] at q; cases q)]
    exact h.st.e1 a o q
  refine hi δ _ hT H0 _ σ _ same0 h.env.env fun J ds G0 G ed s wk => ?_
  subst ed
  have wl : (ps.map pD).length = ps.length := List.length_map _
  refine ⟨fun i m σ' H' => m = ps.length - i ∧ i ≤ ps.length ∧ ∃ I0, Same G0 I0 ∧ Same I0 H' ∧ (∀ a o, I0 a = some o → He a = none → B a = none) ∧ Same B H' ∧ H' p = some (.dT (tab (ps.take i))) ∧ I0 p = none ∧ H' x = some X ∧ I0 x = none ∧ KeepO p0 H H' ∧ (∀ a ∈ p0, I0 a = none) ∧ (∀ n, n ≠ j → σ'[n]? = σ[n]?) ∧ σ'.length = σ.length, ⟨_, rfl, Nat.zero_le _, G0, Same.refl _, s.e2, fun a o q n => ?_, sameB.trans s.e1, ?_, ?_, ?_, ?_, ?_, ?_, fun _ _ => rfl, rfl⟩, ?_⟩
  · cases e : H0 a with
    | some u => exact h.st.fr a u e n
    | none => exact sameB.free (s.fr a o q e)
  · exact s.e1 p _ (by rw [upd_ne xp.symm, upd_same]; rfl)
  · exact step_none s (o := .dT []) (by rw [upd_ne xp.symm, upd_same]) H0p
  · exact s.e1 x _ upd_same
  · exact step_none s (o := X) upd_same H0x
  · intro a ha o q
    refine s.e1 a o ?_
    rw [at0 a (fun e => np0 (e ▸ ha)) (fun e => xp0 (e ▸ ha))]
    exact q
  · intro a ha
    obtain ⟨u, hu⟩ := hf.there a ha
    refine step_none s (o := u) ?_ (fr.2 a (List.mem_cons_of_mem _ ha)).1
    rw [at0 a (fun e => np0 (e ▸ ha)) (fun e => xp0 (e ▸ ha))]
    exact hu
  · rintro i m σ' H' ⟨rfl, hi, I0, a1, a2, a3, a4, a5, a6, a7, a8, a9, a10, a11, a12⟩
    have eH : Same G0 H' := a1.trans a2
    by_cases lt : i < ps.length
    · refine .inr ⟨wk.go i H' eH (by rw [wl]; exact lt), fun σ2 H2 => ∃ I0, Same G0 I0 ∧ Same I0 H2 ∧ (∀ a o, I0 a = some o → He a = none → B a = none) ∧ Same B H2 ∧ H2 p = some (.dT (tab (ps.take (i + 1)))) ∧ I0 p = none ∧ H2 x = some X ∧ I0 x = none ∧ KeepO p0 H H2 ∧ (∀ a ∈ p0, I0 a = none) ∧ (∀ n, n ≠ j → σ2[n]? = σ[n]?) ∧ σ2.length = σ.length, fun σ2 H2 ⟨I2, z⟩ => ⟨ps.length - (i + 1), by omega, rfl, lt, I2, z⟩, fun v H2 y => ?_⟩
      have hd : (ps.map pD)[i]? = some (pD ps[i]) := by rw [List.getElem?_map, List.getElem?_eq_getElem lt]; rfl
      obtain ⟨I1, s1, r1⟩ := wk.yld i H' v H2 _ eH y hd I0 a1 a2
      generalize hq : ps[i] = q at r1
      obtain ⟨t, rfl, ht⟩ : ∃ t, v = .ref t ∧ I1 t = some (.tup [V.int q.1, V.int q.2]) := by
        cases r1 with
        | tup h1 h2 =>
          have z : [D.int q.1, D.int q.2] = [q.1, q.2].map D.int := rfl
          rw [z] at h2
          rw [h2.ints] at h1
          exact ⟨_, rfl, h1⟩
      have m5 := s1.e1 p _ a5
      have m7 := s1.e1 x _ a7
      have σ0 : (σ'.set j (some (V.ref t)))[0]? = some (some (.ref x)) := by
        rw [List.getElem?_set_ne hj0, a11 0 hj0.symm]
        exact h.me
      have lj : j < σ'.length := by
        rw [a12, ← h.env.len]
        exact hjl
      have fl : (fs ++ [(("table" : Str), V.ref p)]).lookup ("table" : Str) = some (.ref p) := by
        rw [List.lookup_append, hf.none hl]
        rfl
      refine ⟨.ref x, σ0, x, C, dx, _, _, rfl, by rw [m7, hX], ok.cls, ok.no, fl, .ref t, List.getElem?_set_self lj, p, _, rfl, DPut.t (k := [Sum.inl q.1, Sum.inl q.2]) m5 (s1.e2 t _ ht) ?_, ?_⟩
      · unfold tab
        rw [List.length_map, List.length_take, sizeLine_eq]
        omega
      · have notin : q ∉ ps.take i := fun z => by
          obtain ⟨n, hn, e⟩ := List.mem_iff_getElem.mp z
          rw [List.length_take] at hn
          rw [List.getElem_take, ← hq] at e
          exact List.pairwise_iff_getElem.mp nd n i (by omega) lt (by omega) e
        have tk : ps.take (i + 1) = ps.take i ++ [q] := by
          rw [List.take_succ, List.getElem?_eq_getElem lt, hq]
          rfl
        rw [tab_put notin, ← tk]
        have I1p : I1 p = none := step_none s1 a5 a6
        have I1x : I1 x = none := step_none s1 a7 a8
        refine ⟨I1, a1.trans s1.e0, fun a o q => ?_, fun a o q n => ?_, fun a o q => ?_, upd_same, I1p, ?_, I1x, fun a ha o q => ?_, fun a ha => ?_, fun n hn => ?_, ?_⟩
        · rw [upd_ne fun e => by rw [e, I1p] at q; cases q]
          exact s1.e2 a o q
        · cases e : I0 a with
          | some u => exact a3 a u e n
          | none => exact a4.free (s1.fr a o q e)
        · rw [upd_ne fun e => by rw [e, Bp] at q; cases q]
          exact s1.e1 a o (a4 a o q)
        · rw [upd_ne xp]
          exact m7
        · rw [upd_ne fun z => np0 (by rw [← z]; exact ha)]
          exact s1.e1 a o (a9 a ha o q)
        · obtain ⟨u, hu⟩ := hf.there a ha
          exact step_none s1 (a9 a ha u hu) (a10 a ha)
        · rw [List.getElem?_set_ne (Ne.symm hn)]
          exact a11 n hn
        · rw [List.length_set]
          exact a12
    · have e : i = ps.length := by omega
      subst e
      rw [List.take_length] at a5
      refine .inl ⟨by rw [← wl]; exact wk.stop H' eH, k (upd I0 p (.dT (tab ps))) H' σ' ⟨⟨a4, fun a o q => ?_, fun a o q => ?_, fun a o q n => ?_⟩, ⟨fun n d q => ?_, by rw [a12]; exact h.env.len⟩, ?_, dx, fs ++ [(("table" : Str), V.ref p)], p0 ++ [], by rw [a7, hX], ?_, ?_⟩⟩
      · have z := a1 a o (s.e0 a o (h.st.e0 a o q))
        rw [upd_ne fun e => by rw [e, a6] at z; cases z]
        exact z
      · by_cases e : a = p
        · rw [e, upd_same] at q
          rw [e, a5]
          exact q
        · rw [upd_ne e] at q
          exact a2 a o q
      · by_cases e : a = p
        · rw [e]
          exact Bp
        · rw [upd_ne e] at q
          exact a3 a o q n
      · have nj : n ≠ j := fun e => by rw [e, hj] at q; cases q
        obtain ⟨v, h1, h2⟩ := h.env.at_ n d q
        refine ⟨v, by rw [a11 n nj]; exact h1, (h2.to (s.e0.trans a1)).to fun a o q => ?_⟩
        rw [upd_ne fun e => by rw [e, a6] at q; cases q]
        exact q
      · rw [a11 0 hj0.symm]
        exact h.me
      · have e0 : Same H0 (upd I0 p (.dT (tab ps))) := fun a o q => by
          have z := a1 a o (s.e0 a o q)
          rw [upd_ne fun e => by rw [e, a6] at z; cases z]
          exact z
        exact (hf.mono e0 a9).snoc (.leaf (.dct upd_same))
      · rw [List.append_nil]
        refine ⟨fr.1, fun a ha => ⟨?_, (fr.2 a ha).2⟩⟩
        rcases List.mem_cons.mp ha with e | e
        · rw [e, upd_ne xp]
          exact a8
        · rw [upd_ne fun z => np0 (by rw [← z]; exact e)]
          exact a10 a e
end
end J
/-! J17: the ways in, statement by statement; a def told to its callers -/
namespace J
open PySem PySem.Spec PyProof.Rows L2
def tAny (X : Cx) (sts : List Stmt) : TS := fun D σ H => ∃ t, PSs X sts t ∧ t D σ H
theorem pss_any {X : Cx} {sts : List Stmt} : PSs X sts (tAny X sts) := ⟨fun pins s σ H D I ⟨_, ht, h⟩ => ht.run pins s σ H D I h⟩
section
variable {X : Cx} {C : Addr} {B He H0 H : Hp} {δ : List DV} {σ : L2.St} {x : Addr} {gs : List (Str × D)} {D' : Ends} {rest : List Stmt} {pos : Pos}
theorem any_nil (h : D'.nx σ H) : tAny X [] D' σ H := ⟨_, pss_nil, h⟩
theorem any_if {c : Expr} {a : List Stmt} {ut : TT} {T : DT} (hc : PTd X c ut T) (h : InI X.K C B He H0 δ σ H x gs) (hT : T δ fun b => b = false) (k : ∀ G, InI X.K C B He H0 δ σ G x gs → tAny X rest D' σ G) : tAny X (.If c a [] pos :: rest) D' σ H :=
  ⟨_, pss_cons (ps_if hc.p (pss_never (sts := a)) pss_nil) pss_any, ini_if (D' := { D' with nx := tAny X rest D' }) h hc.s hT k⟩
theorem any_fld {o e : Expr} {f : Str} {te : TE} {T : DE} {P : D → Prop} {pos' : Pos} (he : PEd X e te T) (ho : PE X o (tVar 0)) (h : InI X.K C B He H0 δ σ H x gs) (ok : FldOk X.K C f) (hT : T δ fun d => fldD d P) (hl : gs.lookup f = none) (hz : gs.length ≤ 100)
    (k : ∀ d G0 G, P d → InI X.K C B He G0 δ σ G x (gs ++ [(f, d)]) → tAny X rest D' σ G) (hs : swapsWith e (some (.Attribute o f pos')) pos.line X.env = pure false := by rfl) : tAny X (.Assign [.Attribute o f pos'] e pos :: rest) D' σ H :=
  ⟨_, pss_cons (ps_fld ho he.p hs) pss_any, ini_fld (D' := { D' with nx := tAny X rest D' }) h he.s hT ok hl hz k⟩
theorem any_table {o it o2 i2 v2 tg : Expr} {Ti : DI} {wi : TI} {j : Nat} {ps : List (Int × Int)} {p1 p2 p3 p4 p5 p6 p7 : Pos} (hc : X.calm = true) (hu : X.A.units + 1 < cLine) (hi : PId X tg it wi Ti) (hg : PG X tg (gName j)) (ho : PE X o (tVar 0)) (ho2 : PE X o2 (tVar 0)) (hi2 : PE X i2 (tVar j)) (hv : PE X v2 (tC (.bl true)))
    (h : InI X.K C B He H0 δ σ H x gs) (ok : FldOk X.K C "table") (hT : Ti δ fun ds => ds = ps.map pD) (hl : gs.lookup ("table" : Str) = none) (hz : gs.length ≤ 100) (nd : ps.Nodup) (few : ps.length < 64) (hj : (δ[j]?).bind DV.see = none) (hj0 : j ≠ 0) (hjl : j < δ.length)
    (k : ∀ G0 G σ', InI X.K C B He G0 δ σ' G x (gs ++ [(("table" : Str), .dct ps)]) → tAny X rest D' σ' G)
    (hs : swapsWith (.Dict [] [] p1) (some (.Attribute o "table" p2)) p3.line X.env = pure false := by rfl)
    (hs2 : swapsWith v2 (some (.Subscript (.Attribute o2 "table" p4) i2 p5)) p6.line X.env = pure false := by rfl)
    (hb : attributeBase o2 "table" X.env (eval o2 X.env) = eval o2 X.env := by rfl)
    (hp : PassesOwn (model X.prog X.w) X.A X.env X.xe := by exact PassesOwn.never) (hf : ∀ x, foldedSetIterable it X.env x = pure x := by intro _; rfl) :
    tAny X (.Assign [.Attribute o "table" p2] (.Dict [] [] p1) p3 :: .For tg it [.Assign [.Subscript (.Attribute o2 "table" p4) i2 p5] v2 p6] [] p7 :: rest) D' σ H :=
  ⟨tSeq (sFld X.K (tVar 0) tDNewT "table") (tSeq (tFor wi (gName j) (sDPut (tFld X.K (tVar 0) "table") (tVar j) (tC (.bl true)))) (tAny X rest)),
    pss_cons (ps_fld ho pe_dnewT hs) (pss_cons (ps_for hp hc hi.p hg (pss_one (ps_dput hu (pe_fld ho2 hb) hi2 hv hs2)) hf) pss_any), ini_table (D' := { D' with nx := tAny X rest D' }) h ok hl hz hi.s hT nd few hj hj0 hjl k⟩
end
section
variable {X : Cx} {B He : Hp} {pos : Pos}
/-- o[i1], o[i2] = e -/
theorem sd_swap2 {o1 i1 o2 i2 e : Expr} {k kk : Nat} {p1 p2 p3 : Pos} {ui uj ue : TE} {ti tj te : DE} (hc : X.calm = true) (hi : PEd X i1 ui ti) (hj : PEd X i2 uj tj) (he : PEd X e ue te)
    (g1 : ∀ t, PE X i1 t → PG X (.Subscript o1 i1 p1) (gSub (tVar k) t rSetL)) (g2 : ∀ t, PE X i2 t → PG X (.Subscript o2 i2 p2) (gSub (tVar k) t rSetL))
    (h1 : (assignEach [.Subscript o1 i1 p1, .Subscript o2 i2 p2] X.env).map (·.2) = assign (.Subscript o1 i1 p1) X.env :: (assignEach [.Subscript o2 i2 p2] X.env).map (·.2) := by rfl)
    (h2 : (assignEach [.Subscript o2 i2 p2] X.env).map (·.2) = assign (.Subscript o2 i2 p2) X.env :: (assignEach [] X.env).map (·.2) := by rfl)
    (hn : (assignEach [.Subscript o1 i1 p1, .Subscript o2 i2 p2] X.env).length = 2 := by rfl) (hst : (assignEach [.Subscript o1 i1 p1, .Subscript o2 i2 p2] X.env).findIdx? (·.1) = none := by rfl)
    (hs : swapsWithSole [.Tuple [.Subscript o1 i1 p1, .Subscript o2 i2 p2] kk p3] e pos.line X.env = pure false := by rfl) (hw : swappedStores [.Tuple [.Subscript o1 i1 p1, .Subscript o2 i2 p2] kk p3] e X.env = pure none := by rfl)
    (h3 : (assignEach [.Tuple [.Subscript o1 i1 p1, .Subscript o2 i2 p2] kk p3] X.env).map (·.2) = [assign (.Tuple [.Subscript o1 i1 p1, .Subscript o2 i2 p2] kk p3) X.env] := by rfl) :
    PSd X B He (.Assign [.Tuple [.Subscript o1 i1 p1, .Subscript o2 i2 p2] kk p3] e pos) (dSwap k ti tj te) :=
  sd_swap (fun te h => ps_asg h (pg_tup hc (pgs_cons (g1 _ hi.p) (pgs_cons (g2 _ hj.p) pgs_nil h2) h1) hn hst) hs hw h3) hi.s hj.s he
end
end J
/-! J18: one of two classes; a field's list changed -/
namespace J
open PySem PySem.Spec PyProof.Rows L2
def dOr2 (T1 T2 : DE) : DE := fun δ P => T1 δ P ∨ T2 δ P
theorem pd_o2 {X : Cx} {e : Expr} {t1 t2 : TE} {T1 T2 : DE} (h1 : PEd X e t1 T1) (h2 : PEd X e t2 T2) : PEd X e (tOr2 t1 t2) (dOr2 T1 T2) := pd_or2 h1 h2
def setFld (gs : List (Str × D)) (f : Str) (d : D) : List (Str × D) := match gs with
  | [] => []
  | (x, e) :: gs => match f == x with
    | true => (x, d) :: gs
    | false => (x, e) :: setFld gs f d
theorem OwnF.app {K : PySem.W.Frag} {H0 H : Hp} {f : Str} {ds : List D} : ∀ {p : List Addr} {fs : List (Str × V)} {gs : List (Str × D)}, OwnF K H0 H p fs gs → p.Nodup → gs.lookup f = some (.olst ds) → ∃ a vs, fs.lookup f = some (.ref a) ∧ a ∈ p ∧ H a = some (.lst vs) ∧ RepL K H0 vs ds ∧
    ∀ vs' ds', RepL K H0 vs' ds' → OwnF K H0 (upd H a (.lst vs')) p fs (setFld gs f (.olst ds'))
  | _, _, _, .nil, _, h => by cases h
  | _, (_, v) :: fs, (x, d) :: gs, @OwnF.cons _ _ _ _ _ _ _ _ p q h1 t, nd, h => by
    obtain ⟨n1, n2, n3⟩ := List.nodup_append.mp nd
    rw [List.lookup_cons] at h
    cases e : (f == x) with
    | true =>
      rw [e] at h
      cases h
      cases h1 with
      | leaf r => cases r
      | olst g r =>
        refine ⟨_, _, by rw [List.lookup_cons, e], List.mem_append_left _ List.mem_cons_self, g, r, fun vs' ds' r' => ?_⟩
        unfold setFld
        rw [e]
        refine .cons (.olst upd_same r') (t.mono (Same.refl _) fun b hb o ho => ?_)
        rw [upd_ne fun z => n3 _ List.mem_cons_self b hb z.symm]
        exact ho
    | false =>
      rw [e] at h
      obtain ⟨a, vs, k1, k2, k3, k4, k5⟩ := t.app n2 h
      refine ⟨a, vs, by rw [List.lookup_cons, e]; exact k1, List.mem_append_right _ k2, k3, k4, fun vs' ds' r' => ?_⟩
      unfold setFld
      rw [e]
      refine .cons (h1.mono (Same.refl _) fun b hb o ho => ?_) (k5 vs' ds' r')
      rw [upd_ne fun z => n3 b hb a k2 z]
      exact ho
/-- e.f.append(a), e the i-th slot, an instance held there -/
def dAppF (K : PySem.W.Frag) (i : Nat) (f : Str) (ta : DE) : DS := fun E δ => ∃ C gs ds, δ[i]? = some (.tr (.oobj C gs)) ∧ FldOk K C f ∧ gs.lookup f = some (.olst ds) ∧ ds.length ≤ 100000 ∧ ta δ fun x => x.plain = true ∧ E.nx (δ.set i (.tr (.oobj C (setFld gs f (.olst (ds ++ [x]))))))
theorem Own.oobj' {K : PySem.W.Frag} {H0 H1 : Hp} {p : List Addr} {v : V} {C : Addr} {gs : List (Str × D)} (h : Own K H0 H1 p v (.oobj C gs)) : ∃ a dx fs q, p = a :: q ∧ v = .ref a ∧ H1 a = some (.ins C dx fs) ∧ OwnF K H0 H1 q fs gs := by
  cases h with
  | one r =>
    cases r with
    | leaf r => cases r
  | oobj g t => exact ⟨_, _, _, _, rfl, rfl, g, t⟩
section
variable {X : Cx} {B He : Hp} {pos : Pos} {ua : TE} {ta : DE}
theorem sd_appF {i : Nat} {f : Str} {o a : Expr} {fpos apos cpos : Pos} (ho : PE X o (tVar i)) (ha : PEd X a ua ta) (hbf : attributeBase o f X.env (eval o X.env) = eval o X.env := by rfl)
    (hbase : attributeBase (.Attribute o f fpos) "append" X.env (eval (.Attribute o f fpos) X.env) = eval (.Attribute o f fpos) X.env := by rfl)
    (hfew : ((backTo cpos (starEach (a :: []) X.env)).all (fun x => !x.1) && (backToKw cpos (keywordEach [] X.env)).all (fun x => x.1.isSome)
      && decide ((a :: []).length + ([] : List Keyword).length + (if ([] : List Keyword).isEmpty then 0 else 1) < 30)) = true := by rfl)
    (hline : (apos.endLine == cpos.line) = true := by rfl) (hs : starEach (a :: []) X.env = (false, eval a X.env) :: starEach [] X.env := by rfl) (hplain : (backTo cpos (starEach [] X.env)).any (·.1) = false := by rfl)
    (hsw : swapsWith (.Call (.Attribute (.Attribute o f fpos) "append" apos) [a] [] cpos) none pos.line X.env = pure false := by rfl) : PSd X B He (.Expr (.Call (.Attribute (.Attribute o f fpos) "append" apos) [a] [] cpos) pos) (dAppF X.K i f ta) := by
  obtain ⟨a1, a2⟩ := ha
  refine ⟨_, ps_expr (pe_bm PySem.F.plainAttrs_list PySem.F.slot_list_append PySem.F.type_list_append mt_append (pe_fld ho hbf) (pa_cons a1 pa_nil hs) hbase hfew hline hs hplain) hsw, fun E δ h D H0 σ H L ok => ?_⟩
  obtain ⟨C, gs, ds, hq, hF, hl, hz, hT⟩ := h
  obtain ⟨F, hf⟩ := ok.own
  obtain ⟨v, hv, o1⟩ := hf.is i _ hq
  obtain ⟨b, dx, fs, q, eF, rfl, hb, o2⟩ := o1.oobj'
  have nq : q.Nodup := by
    have z := (hf.fresh i).1
    rw [eF] at z
    exact (List.nodup_cons.mp z).2
  obtain ⟨l, vs, k1, k2, k3, k4, _⟩ := o2.app nq hl
  refine ⟨.ref b, hv, b, C, dx, fs, .ref l, rfl, hb, hF.cls, hF.no, k1, tyL k3, a2 δ _ hT H0 H σ _ ok.st.e2 ok.env fun w x G0 G hx s r => ?_⟩
  have ok2 := ok.to s
  obtain ⟨F2, hf2⟩ := ok2.own
  obtain ⟨v2, hv2, o3⟩ := hf2.is i _ hq
  rw [hv] at hv2
  have ev : V.ref b = v2 := Option.some.inj (Option.some.inj hv2)
  subst ev
  obtain ⟨b2, dx2, fs2, q2, eF2, e3, hb2, o4⟩ := o3.oobj'
  cases e3
  have hb3 := s.e1 _ _ hb
  rw [hb3] at hb2
  cases hb2
  have nF := (hf2.fresh i).1
  rw [eF2] at nF
  obtain ⟨nb, nq2⟩ := List.nodup_cons.mp nF
  obtain ⟨l2, ws, j1, j2, j3, j4, j5⟩ := o4.app nq2 hl
  rw [k1] at j1
  cases j1
  refine ⟨l, ws, w, rfl, rfl, j3, sz6 (by rw [j4.len]; exact hz), L.nx _ G0 _ _ hx.2 ?_ s.e0⟩
  refine Holds.write ok2 hf2 (by rw [eF2]; exact List.mem_cons_of_mem _ j2) hv (lt_of_get hq) ?_
  rw [eF2]
  have hb4 : upd G l (.lst (ws ++ [w])) b = some (.ins C dx fs) := by
    rw [upd_ne fun z => nb (by rw [z]; exact j2)]
    exact hb3
  exact Own.oobj hb4 (j5 _ _ (j4.app (.cons (r.rep_of hx.1) .nil)))
end
end J
/-! J19: list(reversed(range(m, n))) -/
namespace J
open PySem PySem.Spec PyProof.Rows L2
def rvs (m n : Int) : List Int := (List.range (n - m).toNat).map fun (i : Nat) => m + (((n - m).toNat : Nat) : Int) - 1 + (i : Int) * (-1)
def dLrv2 (ta tb : DE) : DE := fun δ P => ta δ fun x => asI x fun m => tb δ fun y => asI y fun n => 0 ≤ m ∧ m ≤ 100000 ∧ 0 ≤ n ∧ n ≤ 100000 ∧ P (.mv (.olst ((rvs m n).map .int)))
section
variable {X : Cx} {pos : Pos} {a b : Expr} {ta tb : DE} {ua ub : TE}
theorem pd_lrv2 {p p2 p3 pos2 pos3 : Pos} (hc : X.calm = true) (hm : X.mg "list" = none) (hm3 : X.mg "reversed" = none) (hm2 : X.mg "range" = none) (ha : PEd X a ua ta) (hb : PEd X b ub tb) (hg : Gl X "list" := by rfl) (hg2 : Gl X "range" := by rfl) (hg3 : Gl X "reversed" := by rfl)
    (na : starEach [a, b] X.env = (false, eval a X.env) :: starEach [b] X.env := by rfl) (nb : starEach [b] X.env = (false, eval b X.env) :: starEach [] X.env := by rfl) (hp : (backTo pos2 (starEach [b] X.env)).any (·.1) = false := by rfl)
    (nc : starEach [.Call (.Name "range" p2) [a, b] [] pos2] X.env = (false, eval (.Call (.Name "range" p2) [a, b] [] pos2) X.env) :: starEach [] X.env := by rfl)
    (nd : starEach [.Call (.Name "reversed" p3) [.Call (.Name "range" p2) [a, b] [] pos2] [] pos3] X.env = (false, eval (.Call (.Name "reversed" p3) [.Call (.Name "range" p2) [a, b] [] pos2] [] pos3) X.env) :: starEach [] X.env := by rfl) :
    PEd X (.Call (.Name "list" p) [.Call (.Name "reversed" p3) [.Call (.Name "range" p2) [a, b] [] pos2] [] pos3] [] pos) (SLI.tLrv (tRg2 ua ub)) (dLrv2 ta tb) := by
  refine ⟨SLI.pe_lrv hc hg hm hg3 hm3 (prg_2 hg2 hm2 ha.p hb.p na nb hp) nc nd, fun δ P hT H0 H1 σ Q e env k => ha.s δ _ hT H0 H1 σ _ e env fun v x G0 G hx s r => ?_⟩
  obtain ⟨m, rfl, hx⟩ := asI_inv hx
  refine hb.s δ _ hx G0 G σ _ s.e2 (env.to s.e0 s.e1) fun w y I0 I hy s2 r2 => ?_
  obtain ⟨n, rfl, h0, h1, h2, h3, hq⟩ := asI_inv hy
  refine ⟨m, n, res_int r, res_int r2, by omega, by omega, by omega, by omega, by omega, (k.after (s.trans s2)).lst s2.e2 hq ?_⟩
  have e : ((List.range (n - m).toNat).map fun (i : Nat) => V.int (m + (((n - m).toNat : Nat) : Int) - 1 + (i : Nat) * (-1))) = (rvs m n).map V.int := by
    unfold rvs
    rw [List.map_map]
    rfl
  rw [e]
  exact .ofInts _
end
end J
/-! P1: what the program's small defs do -/
namespace J
open PySem PySem.Spec PyProof.Rows L2
/-- one minds the other -/
def mnd (ps : List (Int × Int)) (a b : Int) : Bool := decide (a = b) || decide (((if b < a then b else a), (if b > a then b else a)) ∈ ps)
abbrev mK (K : PySem.W.Frag) (n : Int) (ps : List (Int × Int)) : D := mD (He.ga K "Minds") n ps
def PairsOk (n : Int) (ps : List (Int × Int)) : Prop := ps.Nodup ∧ ps.length < 64 ∧ ∀ q ∈ ps, 0 ≤ q.1 ∧ q.1 < q.2 ∧ q.2 < n
/-- the kinds are kinds -/
def Kinds (n : Int) (xs : List Int) : Prop := ∀ x ∈ xs, 0 ≤ x ∧ x < n
/-- what is asked of the text: fields of Minds -/
structure MindsOk (K : PySem.W.Frag) : Prop where
  kinds : FldOk K (He.ga K "Minds") "kinds"
  kept : FldOk K (He.ga K "Minds") "kept"
  table : FldOk K (He.ga K "Minds") "table"
theorem isA_m {C : Addr} {n : Int} {ps : List (Int × Int)} {m : Str} (h : (m == "kinds") = false ∧ (m == "kept") = false ∧ (m == "table") = false) : D.isA C m (mD C n ps) := by
  refine ⟨rfl, ?_⟩
  obtain ⟨h1, h2, h3⟩ := h
  simp [List.lookup_cons, h1, h2, h3]
theorem isA_minding {C : Addr} {n : Int} {ps : List (Int × Int)} : D.isA C "minding" (mD C n ps) := ⟨rfl, by rfl⟩
theorem isA_is_kind {C : Addr} {n : Int} {ps : List (Int × Int)} : D.isA C "is_kind" (mD C n ps) := ⟨rfl, by rfl⟩
theorem fld_kinds {K : PySem.W.Frag} (M : MindsOk K) {n : Int} {ps : List (Int × Int)} {P : D → Prop} (h : P (.int n)) : gFld K "kinds" (mK K n ps) P := ⟨M.kinds, h⟩
theorem fld_table {K : PySem.W.Frag} (M : MindsOk K) {n : Int} {ps : List (Int × Int)} {P : D → Prop} (h : P (.dct ps)) : gFld K "table" (mK K n ps) P := ⟨M.table, h⟩
theorem fld_kept {K : PySem.W.Frag} (M : MindsOk K) {n : Int} {ps : List (Int × Int)} {P : D → Prop} (h : P (.lst (ps.map pD))) : gFld K "kept" (mK K n ps) P := ⟨M.kept, h⟩

abbrev newM (K : PySem.W.Frag) (n : Int) (ps : List (Int × Int)) : D := .oobj (He.ga K "Minds") [("kinds", .int n), ("kept", .olst (ps.map pD)), ("table", .dct ps)]
theorem fzm_M {K : PySem.W.Frag} {n : Int} {ps : List (Int × Int)} : fzm (.mv (newM K n ps)) = mK K n ps := rfl
def G_Minds_init (K : PySem.W.Frag) : GD := fun ds P => ∃ n ps, ds = [.int n, .lst (ps.map pD)] ∧ 1 ≤ n ∧ PairsOk n ps ∧ P (.mv (newM K n ps))
def D.isInt : D → Bool
  | .int _ => true
  | _ => false
def G_is_number (_K : PySem.W.Frag) : GD := fun ds P => ∃ i, ds = [.int i] ∧ P (.bl true)
/-! ### is_number -/
abbrev N_is_number : List Str := ["thing"]
def T_is_number (K : PySem.W.Frag) : DS := (dRet (dAnd (dIsi K (.type "int") (dVar 0)) (dNot (dIsi K (.type "bool") (dVar 0)))))
theorem rd_is_number {K : PySem.W.Frag} : ∀ ds Q, G_is_number K ds Q → T_is_number K { nx := fun _ => Q .non, rt := Q } (δof N_is_number.length ds) := by
  rintro _ Q ⟨i, rfl, h⟩
  simp only [T_is_number, dSeq, dIfS, dT, dTn, dTa, dTo, dOp, dVar, dC, dFz_eq, dCB, dCons, dNil, dCall, dCallB, dMeth, dMethB, dSet, dApp, dExt, dRet, dRetM, dNx, dDrop, dNeg, dAnd, dOr, dNot, dIf, dCh, dCh3, dU, dTup, dLst, dFld, dIsi, dIl, dIe, dIr1, dIr2, dIv1, dgN, dgT, putAll, dFor, dPar2, dPar3, dSetT, dLc, dYes, dSl, dNo, dSome, dRev, dNev, dSset, dCount, dIndex, dLrg1, dLrg2, dTwo, un_non, un_int, un_bl, un_str, un_lst, un_tup, un_obj, un_dct, un_scr, un_olst, un_oll, un_oobj, un_mv, un_m, un_p, pl_non, pl_int, pl_bl, pl_str, pl_lst, pl_tup, pl_obj, pl_dct, pl_scr, pl_m, pl_p, fzm_non, fzm_int, fzm_bl, fzm_lst, fzm_tup, fzm_obj, fzm_scr, fzm_olst, fzm_oll, fzm_oobj, fzm_m, frz_non, frz_int, frz_bl, frz_str, frz_lst, frz_tup, frz_obj, frz_dct, frz_scr, frz_olst, frz_oll, frz_m, fz_no, fz_tr, see_no, see_tr, asB_bl, asI_int, asgD_non, asgD_int, asgD_bl, asgD_lst, asgD_tup, asgD_obj, asgD_mv, asgD_m, it_lst, it_olst, it_scr, li_lst, li_olst, pit_lst, pit_scr, sz_lst, sz_olst, sz_oll, sz_scr, sz_tup, ad_int, ad_ll, ad_oo, ad_lo, ad_ol, mu_int, mu_l, mu_o, gI_int, gI0_int, gI2_int, ii_eqv, co_int, co_bl, co_non, co_row, co_rowO, co_nil, co_nilO, co_ps, co_p, co_p2, co_rows, ev_ll, ev_ol, ev_lo, ev_oo, ev_ln, ev_lno, ev_on, ev_ono, in_ps, in_row, gEq, gNe, gIn, gNotIn, g1, g2, gLen, gList, δof, List.getElem?_cons_zero, List.getElem?_cons_succ, List.getElem?_nil, List.set_cons_zero, List.set_cons_succ, List.map_cons, List.map_nil, List.length_cons, List.length_nil, List.replicate_succ, List.replicate_zero, List.cons_append, List.nil_append, Option.bind_some, Option.bind_none, List.all_cons, List.all_nil, List.append_nil, Nat.reduceAdd, Nat.reduceSub, true_and, and_true, Bool.and_true, Bool.true_and]
  refine ⟨true, rfl, ?_⟩
  simp only [dSeq, dIfS, dT, dTn, dTa, dTo, dOp, dVar, dC, dFz_eq, dCB, dCons, dNil, dCall, dCallB, dMeth, dMethB, dSet, dApp, dExt, dRet, dRetM, dNx, dDrop, dNeg, dAnd, dOr, dNot, dIf, dCh, dCh3, dU, dTup, dLst, dFld, dIsi, dIl, dIe, dIr1, dIr2, dIv1, dgN, dgT, putAll, dFor, dPar2, dPar3, dSetT, dLc, dYes, dSl, dNo, dSome, dRev, dNev, dSset, dCount, dIndex, dLrg1, dLrg2, dTwo, un_non, un_int, un_bl, un_str, un_lst, un_tup, un_obj, un_dct, un_scr, un_olst, un_oll, un_oobj, un_mv, un_m, un_p, pl_non, pl_int, pl_bl, pl_str, pl_lst, pl_tup, pl_obj, pl_dct, pl_scr, pl_m, pl_p, fzm_non, fzm_int, fzm_bl, fzm_lst, fzm_tup, fzm_obj, fzm_scr, fzm_olst, fzm_oll, fzm_oobj, fzm_m, frz_non, frz_int, frz_bl, frz_str, frz_lst, frz_tup, frz_obj, frz_dct, frz_scr, frz_olst, frz_oll, frz_m, fz_no, fz_tr, see_no, see_tr, asB_bl, asI_int, asgD_non, asgD_int, asgD_bl, asgD_lst, asgD_tup, asgD_obj, asgD_mv, asgD_m, it_lst, it_olst, it_scr, li_lst, li_olst, pit_lst, pit_scr, sz_lst, sz_olst, sz_oll, sz_scr, sz_tup, ad_int, ad_ll, ad_oo, ad_lo, ad_ol, mu_int, mu_l, mu_o, gI_int, gI0_int, gI2_int, ii_eqv, co_int, co_bl, co_non, co_row, co_rowO, co_nil, co_nilO, co_ps, co_p, co_p2, co_rows, ev_ll, ev_ol, ev_lo, ev_oo, ev_ln, ev_lno, ev_on, ev_ono, in_ps, in_row, gEq, gNe, gIn, gNotIn, g1, g2, gLen, gList, δof, List.getElem?_cons_zero, List.getElem?_cons_succ, List.getElem?_nil, List.set_cons_zero, List.set_cons_succ, List.map_cons, List.map_nil, List.length_cons, List.length_nil, List.replicate_succ, List.replicate_zero, List.cons_append, List.nil_append, Option.bind_some, Option.bind_none, List.all_cons, List.all_nil, List.append_nil, Nat.reduceAdd, Nat.reduceSub, true_and, and_true, Bool.and_true, Bool.true_and]
  exact ⟨false, rfl, h⟩
def G_is_pair (_K : PySem.W.Frag) : GD := fun ds P => ∃ (q : Int × Int) (n : Int), ds = [pD q, .int n] ∧ (0 ≤ q.1 ∧ q.1 < q.2 ∧ q.2 < n) ∧ P (.bl true)
/-! ### is_pair -/
abbrev N_is_pair : List Str := ["thing", "kinds"]
def T_is_pair (K : PySem.W.Frag) : DS := (dSeq (dIfS (dTo (dTn (dT (dIsi K (.type "tuple") (dVar 0)))) (dTo (dT (dOp gNe (dCB gLen (dCons (dVar 0) dNil)) (dC (.int 2)))) (dTo (dTn (dT (dCall (G_is_number K) (dCons (dOp gIx (dVar 0) (dC (.int 0))) dNil)))) (dTn (dT (dCall (G_is_number K) (dCons (dOp gIx (dVar 0) (dC (.int 1))) dNil))))))) (dRet (dC (.bl false))) dNx)
  (dRet (dCh3 gLe gLt gLt (dC (.int 0)) (dOp gIx (dVar 0) (dC (.int 0))) (dOp gIx (dVar 0) (dC (.int 1))) (dVar 1))))
theorem rd_is_pair {K : PySem.W.Frag} : ∀ ds Q, G_is_pair K ds Q → T_is_pair K { nx := fun _ => Q .non, rt := Q } (δof N_is_pair.length ds) := by
  rintro _ Q ⟨⟨a, b⟩, n, rfl, hq, h⟩
  simp only [T_is_pair, pD, dSeq, dIfS, dT, dTn, dTa, dTo, dOp, dVar, dC, dFz_eq, dCB, dCons, dNil, dCall, dCallB, dMeth, dMethB, dSet, dApp, dExt, dRet, dRetM, dNx, dDrop, dNeg, dAnd, dOr, dNot, dIf, dCh, dCh3, dU, dTup, dLst, dFld, dIsi, dIl, dIe, dIr1, dIr2, dIv1, dgN, dgT, putAll, dFor, dPar2, dPar3, dSetT, dLc, dYes, dSl, dNo, dSome, dRev, dNev, dSset, dCount, dIndex, dLrg1, dLrg2, dTwo, un_non, un_int, un_bl, un_str, un_lst, un_tup, un_obj, un_dct, un_scr, un_olst, un_oll, un_oobj, un_mv, un_m, un_p, pl_non, pl_int, pl_bl, pl_str, pl_lst, pl_tup, pl_obj, pl_dct, pl_scr, pl_m, pl_p, fzm_non, fzm_int, fzm_bl, fzm_lst, fzm_tup, fzm_obj, fzm_scr, fzm_olst, fzm_oll, fzm_oobj, fzm_m, frz_non, frz_int, frz_bl, frz_str, frz_lst, frz_tup, frz_obj, frz_dct, frz_scr, frz_olst, frz_oll, frz_m, fz_no, fz_tr, see_no, see_tr, asB_bl, asI_int, asgD_non, asgD_int, asgD_bl, asgD_lst, asgD_tup, asgD_obj, asgD_mv, asgD_m, it_lst, it_olst, it_scr, li_lst, li_olst, pit_lst, pit_scr, sz_lst, sz_olst, sz_oll, sz_scr, sz_tup, ad_int, ad_ll, ad_oo, ad_lo, ad_ol, mu_int, mu_l, mu_o, gI_int, gI0_int, gI2_int, ii_eqv, co_int, co_bl, co_non, co_row, co_rowO, co_nil, co_nilO, co_ps, co_p, co_p2, co_rows, ev_ll, ev_ol, ev_lo, ev_oo, ev_ln, ev_lno, ev_on, ev_ono, in_ps, in_row, gEq, gNe, gIn, gNotIn, g1, g2, gLen, gList, δof, List.getElem?_cons_zero, List.getElem?_cons_succ, List.getElem?_nil, List.set_cons_zero, List.set_cons_succ, List.map_cons, List.map_nil, List.length_cons, List.length_nil, List.replicate_succ, List.replicate_zero, List.cons_append, List.nil_append, Option.bind_some, Option.bind_none, List.all_cons, List.all_nil, List.append_nil, Nat.reduceAdd, Nat.reduceSub, true_and, and_true, Bool.and_true, Bool.true_and]
  refine ⟨true, rfl, ?_⟩
  simp only [dSeq, dIfS, dT, dTn, dTa, dTo, dOp, dVar, dC, dFz_eq, dCB, dCons, dNil, dCall, dCallB, dMeth, dMethB, dSet, dApp, dExt, dRet, dRetM, dNx, dDrop, dNeg, dAnd, dOr, dNot, dIf, dCh, dCh3, dU, dTup, dLst, dFld, dIsi, dIl, dIe, dIr1, dIr2, dIv1, dgN, dgT, putAll, dFor, dPar2, dPar3, dSetT, dLc, dYes, dSl, dNo, dSome, dRev, dNev, dSset, dCount, dIndex, dLrg1, dLrg2, dTwo, un_non, un_int, un_bl, un_str, un_lst, un_tup, un_obj, un_dct, un_scr, un_olst, un_oll, un_oobj, un_mv, un_m, un_p, pl_non, pl_int, pl_bl, pl_str, pl_lst, pl_tup, pl_obj, pl_dct, pl_scr, pl_m, pl_p, fzm_non, fzm_int, fzm_bl, fzm_lst, fzm_tup, fzm_obj, fzm_scr, fzm_olst, fzm_oll, fzm_oobj, fzm_m, frz_non, frz_int, frz_bl, frz_str, frz_lst, frz_tup, frz_obj, frz_dct, frz_scr, frz_olst, frz_oll, frz_m, fz_no, fz_tr, see_no, see_tr, asB_bl, asI_int, asgD_non, asgD_int, asgD_bl, asgD_lst, asgD_tup, asgD_obj, asgD_mv, asgD_m, it_lst, it_olst, it_scr, li_lst, li_olst, pit_lst, pit_scr, sz_lst, sz_olst, sz_oll, sz_scr, sz_tup, ad_int, ad_ll, ad_oo, ad_lo, ad_ol, mu_int, mu_l, mu_o, gI_int, gI0_int, gI2_int, ii_eqv, co_int, co_bl, co_non, co_row, co_rowO, co_nil, co_nilO, co_ps, co_p, co_p2, co_rows, ev_ll, ev_ol, ev_lo, ev_oo, ev_ln, ev_lno, ev_on, ev_ono, in_ps, in_row, gEq, gNe, gIn, gNotIn, g1, g2, gLen, gList, δof, List.getElem?_cons_zero, List.getElem?_cons_succ, List.getElem?_nil, List.set_cons_zero, List.set_cons_succ, List.map_cons, List.map_nil, List.length_cons, List.length_nil, List.replicate_succ, List.replicate_zero, List.cons_append, List.nil_append, Option.bind_some, Option.bind_none, List.all_cons, List.all_nil, List.append_nil, Nat.reduceAdd, Nat.reduceSub, true_and, and_true, Bool.and_true, Bool.true_and]
  refine ix_tup ⟨_, at_zero, ?_⟩
  simp only [dSeq, dIfS, dT, dTn, dTa, dTo, dOp, dVar, dC, dFz_eq, dCB, dCons, dNil, dCall, dCallB, dMeth, dMethB, dSet, dApp, dExt, dRet, dRetM, dNx, dDrop, dNeg, dAnd, dOr, dNot, dIf, dCh, dCh3, dU, dTup, dLst, dFld, dIsi, dIl, dIe, dIr1, dIr2, dIv1, dgN, dgT, putAll, dFor, dPar2, dPar3, dSetT, dLc, dYes, dSl, dNo, dSome, dRev, dNev, dSset, dCount, dIndex, dLrg1, dLrg2, dTwo, un_non, un_int, un_bl, un_str, un_lst, un_tup, un_obj, un_dct, un_scr, un_olst, un_oll, un_oobj, un_mv, un_m, un_p, pl_non, pl_int, pl_bl, pl_str, pl_lst, pl_tup, pl_obj, pl_dct, pl_scr, pl_m, pl_p, fzm_non, fzm_int, fzm_bl, fzm_lst, fzm_tup, fzm_obj, fzm_scr, fzm_olst, fzm_oll, fzm_oobj, fzm_m, frz_non, frz_int, frz_bl, frz_str, frz_lst, frz_tup, frz_obj, frz_dct, frz_scr, frz_olst, frz_oll, frz_m, fz_no, fz_tr, see_no, see_tr, asB_bl, asI_int, asgD_non, asgD_int, asgD_bl, asgD_lst, asgD_tup, asgD_obj, asgD_mv, asgD_m, it_lst, it_olst, it_scr, li_lst, li_olst, pit_lst, pit_scr, sz_lst, sz_olst, sz_oll, sz_scr, sz_tup, ad_int, ad_ll, ad_oo, ad_lo, ad_ol, mu_int, mu_l, mu_o, gI_int, gI0_int, gI2_int, ii_eqv, co_int, co_bl, co_non, co_row, co_rowO, co_nil, co_nilO, co_ps, co_p, co_p2, co_rows, ev_ll, ev_ol, ev_lo, ev_oo, ev_ln, ev_lno, ev_on, ev_ono, in_ps, in_row, gEq, gNe, gIn, gNotIn, g1, g2, gLen, gList, δof, List.getElem?_cons_zero, List.getElem?_cons_succ, List.getElem?_nil, List.set_cons_zero, List.set_cons_succ, List.map_cons, List.map_nil, List.length_cons, List.length_nil, List.replicate_succ, List.replicate_zero, List.cons_append, List.nil_append, Option.bind_some, Option.bind_none, List.all_cons, List.all_nil, List.append_nil, Nat.reduceAdd, Nat.reduceSub, true_and, and_true, Bool.and_true, Bool.true_and]
  refine ⟨a, rfl, ?_⟩
  simp only [dSeq, dIfS, dT, dTn, dTa, dTo, dOp, dVar, dC, dFz_eq, dCB, dCons, dNil, dCall, dCallB, dMeth, dMethB, dSet, dApp, dExt, dRet, dRetM, dNx, dDrop, dNeg, dAnd, dOr, dNot, dIf, dCh, dCh3, dU, dTup, dLst, dFld, dIsi, dIl, dIe, dIr1, dIr2, dIv1, dgN, dgT, putAll, dFor, dPar2, dPar3, dSetT, dLc, dYes, dSl, dNo, dSome, dRev, dNev, dSset, dCount, dIndex, dLrg1, dLrg2, dTwo, un_non, un_int, un_bl, un_str, un_lst, un_tup, un_obj, un_dct, un_scr, un_olst, un_oll, un_oobj, un_mv, un_m, un_p, pl_non, pl_int, pl_bl, pl_str, pl_lst, pl_tup, pl_obj, pl_dct, pl_scr, pl_m, pl_p, fzm_non, fzm_int, fzm_bl, fzm_lst, fzm_tup, fzm_obj, fzm_scr, fzm_olst, fzm_oll, fzm_oobj, fzm_m, frz_non, frz_int, frz_bl, frz_str, frz_lst, frz_tup, frz_obj, frz_dct, frz_scr, frz_olst, frz_oll, frz_m, fz_no, fz_tr, see_no, see_tr, asB_bl, asI_int, asgD_non, asgD_int, asgD_bl, asgD_lst, asgD_tup, asgD_obj, asgD_mv, asgD_m, it_lst, it_olst, it_scr, li_lst, li_olst, pit_lst, pit_scr, sz_lst, sz_olst, sz_oll, sz_scr, sz_tup, ad_int, ad_ll, ad_oo, ad_lo, ad_ol, mu_int, mu_l, mu_o, gI_int, gI0_int, gI2_int, ii_eqv, co_int, co_bl, co_non, co_row, co_rowO, co_nil, co_nilO, co_ps, co_p, co_p2, co_rows, ev_ll, ev_ol, ev_lo, ev_oo, ev_ln, ev_lno, ev_on, ev_ono, in_ps, in_row, gEq, gNe, gIn, gNotIn, g1, g2, gLen, gList, δof, List.getElem?_cons_zero, List.getElem?_cons_succ, List.getElem?_nil, List.set_cons_zero, List.set_cons_succ, List.map_cons, List.map_nil, List.length_cons, List.length_nil, List.replicate_succ, List.replicate_zero, List.cons_append, List.nil_append, Option.bind_some, Option.bind_none, List.all_cons, List.all_nil, List.append_nil, Nat.reduceAdd, Nat.reduceSub, true_and, and_true, Bool.and_true, Bool.true_and]
  refine ix_tup ⟨_, at_nat (i := 1) rfl, ?_⟩
  simp only [dSeq, dIfS, dT, dTn, dTa, dTo, dOp, dVar, dC, dFz_eq, dCB, dCons, dNil, dCall, dCallB, dMeth, dMethB, dSet, dApp, dExt, dRet, dRetM, dNx, dDrop, dNeg, dAnd, dOr, dNot, dIf, dCh, dCh3, dU, dTup, dLst, dFld, dIsi, dIl, dIe, dIr1, dIr2, dIv1, dgN, dgT, putAll, dFor, dPar2, dPar3, dSetT, dLc, dYes, dSl, dNo, dSome, dRev, dNev, dSset, dCount, dIndex, dLrg1, dLrg2, dTwo, un_non, un_int, un_bl, un_str, un_lst, un_tup, un_obj, un_dct, un_scr, un_olst, un_oll, un_oobj, un_mv, un_m, un_p, pl_non, pl_int, pl_bl, pl_str, pl_lst, pl_tup, pl_obj, pl_dct, pl_scr, pl_m, pl_p, fzm_non, fzm_int, fzm_bl, fzm_lst, fzm_tup, fzm_obj, fzm_scr, fzm_olst, fzm_oll, fzm_oobj, fzm_m, frz_non, frz_int, frz_bl, frz_str, frz_lst, frz_tup, frz_obj, frz_dct, frz_scr, frz_olst, frz_oll, frz_m, fz_no, fz_tr, see_no, see_tr, asB_bl, asI_int, asgD_non, asgD_int, asgD_bl, asgD_lst, asgD_tup, asgD_obj, asgD_mv, asgD_m, it_lst, it_olst, it_scr, li_lst, li_olst, pit_lst, pit_scr, sz_lst, sz_olst, sz_oll, sz_scr, sz_tup, ad_int, ad_ll, ad_oo, ad_lo, ad_ol, mu_int, mu_l, mu_o, gI_int, gI0_int, gI2_int, ii_eqv, co_int, co_bl, co_non, co_row, co_rowO, co_nil, co_nilO, co_ps, co_p, co_p2, co_rows, ev_ll, ev_ol, ev_lo, ev_oo, ev_ln, ev_lno, ev_on, ev_ono, in_ps, in_row, gEq, gNe, gIn, gNotIn, g1, g2, gLen, gList, δof, List.getElem?_cons_zero, List.getElem?_cons_succ, List.getElem?_nil, List.set_cons_zero, List.set_cons_succ, List.map_cons, List.map_nil, List.length_cons, List.length_nil, List.replicate_succ, List.replicate_zero, List.cons_append, List.nil_append, Option.bind_some, Option.bind_none, List.all_cons, List.all_nil, List.append_nil, Nat.reduceAdd, Nat.reduceSub, true_and, and_true, Bool.and_true, Bool.true_and]
  refine ⟨b, rfl, ?_⟩
  simp only [dSeq, dIfS, dT, dTn, dTa, dTo, dOp, dVar, dC, dFz_eq, dCB, dCons, dNil, dCall, dCallB, dMeth, dMethB, dSet, dApp, dExt, dRet, dRetM, dNx, dDrop, dNeg, dAnd, dOr, dNot, dIf, dCh, dCh3, dU, dTup, dLst, dFld, dIsi, dIl, dIe, dIr1, dIr2, dIv1, dgN, dgT, putAll, dFor, dPar2, dPar3, dSetT, dLc, dYes, dSl, dNo, dSome, dRev, dNev, dSset, dCount, dIndex, dLrg1, dLrg2, dTwo, un_non, un_int, un_bl, un_str, un_lst, un_tup, un_obj, un_dct, un_scr, un_olst, un_oll, un_oobj, un_mv, un_m, un_p, pl_non, pl_int, pl_bl, pl_str, pl_lst, pl_tup, pl_obj, pl_dct, pl_scr, pl_m, pl_p, fzm_non, fzm_int, fzm_bl, fzm_lst, fzm_tup, fzm_obj, fzm_scr, fzm_olst, fzm_oll, fzm_oobj, fzm_m, frz_non, frz_int, frz_bl, frz_str, frz_lst, frz_tup, frz_obj, frz_dct, frz_scr, frz_olst, frz_oll, frz_m, fz_no, fz_tr, see_no, see_tr, asB_bl, asI_int, asgD_non, asgD_int, asgD_bl, asgD_lst, asgD_tup, asgD_obj, asgD_mv, asgD_m, it_lst, it_olst, it_scr, li_lst, li_olst, pit_lst, pit_scr, sz_lst, sz_olst, sz_oll, sz_scr, sz_tup, ad_int, ad_ll, ad_oo, ad_lo, ad_ol, mu_int, mu_l, mu_o, gI_int, gI0_int, gI2_int, ii_eqv, co_int, co_bl, co_non, co_row, co_rowO, co_nil, co_nilO, co_ps, co_p, co_p2, co_rows, ev_ll, ev_ol, ev_lo, ev_oo, ev_ln, ev_lno, ev_on, ev_ono, in_ps, in_row, gEq, gNe, gIn, gNotIn, g1, g2, gLen, gList, δof, List.getElem?_cons_zero, List.getElem?_cons_succ, List.getElem?_nil, List.set_cons_zero, List.set_cons_succ, List.map_cons, List.map_nil, List.length_cons, List.length_nil, List.replicate_succ, List.replicate_zero, List.cons_append, List.nil_append, Option.bind_some, Option.bind_none, List.all_cons, List.all_nil, List.append_nil, Nat.reduceAdd, Nat.reduceSub, true_and, and_true, Bool.and_true, Bool.true_and]
  refine ix_tup ⟨_, at_zero, ?_⟩
  simp only [dSeq, dIfS, dT, dTn, dTa, dTo, dOp, dVar, dC, dFz_eq, dCB, dCons, dNil, dCall, dCallB, dMeth, dMethB, dSet, dApp, dExt, dRet, dRetM, dNx, dDrop, dNeg, dAnd, dOr, dNot, dIf, dCh, dCh3, dU, dTup, dLst, dFld, dIsi, dIl, dIe, dIr1, dIr2, dIv1, dgN, dgT, putAll, dFor, dPar2, dPar3, dSetT, dLc, dYes, dSl, dNo, dSome, dRev, dNev, dSset, dCount, dIndex, dLrg1, dLrg2, dTwo, un_non, un_int, un_bl, un_str, un_lst, un_tup, un_obj, un_dct, un_scr, un_olst, un_oll, un_oobj, un_mv, un_m, un_p, pl_non, pl_int, pl_bl, pl_str, pl_lst, pl_tup, pl_obj, pl_dct, pl_scr, pl_m, pl_p, fzm_non, fzm_int, fzm_bl, fzm_lst, fzm_tup, fzm_obj, fzm_scr, fzm_olst, fzm_oll, fzm_oobj, fzm_m, frz_non, frz_int, frz_bl, frz_str, frz_lst, frz_tup, frz_obj, frz_dct, frz_scr, frz_olst, frz_oll, frz_m, fz_no, fz_tr, see_no, see_tr, asB_bl, asI_int, asgD_non, asgD_int, asgD_bl, asgD_lst, asgD_tup, asgD_obj, asgD_mv, asgD_m, it_lst, it_olst, it_scr, li_lst, li_olst, pit_lst, pit_scr, sz_lst, sz_olst, sz_oll, sz_scr, sz_tup, ad_int, ad_ll, ad_oo, ad_lo, ad_ol, mu_int, mu_l, mu_o, gI_int, gI0_int, gI2_int, ii_eqv, co_int, co_bl, co_non, co_row, co_rowO, co_nil, co_nilO, co_ps, co_p, co_p2, co_rows, ev_ll, ev_ol, ev_lo, ev_oo, ev_ln, ev_lno, ev_on, ev_ono, in_ps, in_row, gEq, gNe, gIn, gNotIn, g1, g2, gLen, gList, δof, List.getElem?_cons_zero, List.getElem?_cons_succ, List.getElem?_nil, List.set_cons_zero, List.set_cons_succ, List.map_cons, List.map_nil, List.length_cons, List.length_nil, List.replicate_succ, List.replicate_zero, List.cons_append, List.nil_append, Option.bind_some, Option.bind_none, List.all_cons, List.all_nil, List.append_nil, Nat.reduceAdd, Nat.reduceSub, true_and, and_true, Bool.and_true, Bool.true_and, decide_eq_true hq.1]
  refine ix_tup ⟨_, at_nat (i := 1) rfl, ?_⟩
  simp only [dSeq, dIfS, dT, dTn, dTa, dTo, dOp, dVar, dC, dFz_eq, dCB, dCons, dNil, dCall, dCallB, dMeth, dMethB, dSet, dApp, dExt, dRet, dRetM, dNx, dDrop, dNeg, dAnd, dOr, dNot, dIf, dCh, dCh3, dU, dTup, dLst, dFld, dIsi, dIl, dIe, dIr1, dIr2, dIv1, dgN, dgT, putAll, dFor, dPar2, dPar3, dSetT, dLc, dYes, dSl, dNo, dSome, dRev, dNev, dSset, dCount, dIndex, dLrg1, dLrg2, dTwo, un_non, un_int, un_bl, un_str, un_lst, un_tup, un_obj, un_dct, un_scr, un_olst, un_oll, un_oobj, un_mv, un_m, un_p, pl_non, pl_int, pl_bl, pl_str, pl_lst, pl_tup, pl_obj, pl_dct, pl_scr, pl_m, pl_p, fzm_non, fzm_int, fzm_bl, fzm_lst, fzm_tup, fzm_obj, fzm_scr, fzm_olst, fzm_oll, fzm_oobj, fzm_m, frz_non, frz_int, frz_bl, frz_str, frz_lst, frz_tup, frz_obj, frz_dct, frz_scr, frz_olst, frz_oll, frz_m, fz_no, fz_tr, see_no, see_tr, asB_bl, asI_int, asgD_non, asgD_int, asgD_bl, asgD_lst, asgD_tup, asgD_obj, asgD_mv, asgD_m, it_lst, it_olst, it_scr, li_lst, li_olst, pit_lst, pit_scr, sz_lst, sz_olst, sz_oll, sz_scr, sz_tup, ad_int, ad_ll, ad_oo, ad_lo, ad_ol, mu_int, mu_l, mu_o, gI_int, gI0_int, gI2_int, ii_eqv, co_int, co_bl, co_non, co_row, co_rowO, co_nil, co_nilO, co_ps, co_p, co_p2, co_rows, ev_ll, ev_ol, ev_lo, ev_oo, ev_ln, ev_lno, ev_on, ev_ono, in_ps, in_row, gEq, gNe, gIn, gNotIn, g1, g2, gLen, gList, δof, List.getElem?_cons_zero, List.getElem?_cons_succ, List.getElem?_nil, List.set_cons_zero, List.set_cons_succ, List.map_cons, List.map_nil, List.length_cons, List.length_nil, List.replicate_succ, List.replicate_zero, List.cons_append, List.nil_append, Option.bind_some, Option.bind_none, List.all_cons, List.all_nil, List.append_nil, Nat.reduceAdd, Nat.reduceSub, true_and, and_true, Bool.and_true, Bool.true_and, decide_eq_true hq.2.1, decide_eq_true hq.2.2]
  exact h
def G_Minds_pairs (K : PySem.W.Frag) : GD := fun ds P => ∃ n ps, ds = [mK K n ps] ∧ P (.mv (.olst (ps.map pD)))
def G_Minds_minding (K : PySem.W.Frag) : GD := fun ds P => ∃ n ps a b, ds = [mK K n ps, .int a, .int b] ∧ P (.bl (mnd ps a b))
/-! ### Minds.minding -/
abbrev N_Minds_minding : List Str := ["self", "one", "other"]
def T_Minds_minding (K : PySem.W.Frag) : DS := (dRet (dOr (dOp gEq (dVar 1) (dVar 2)) (dOp gInD (dTup (dCons (dFz (dCB (gI2 fun i j => if j < i then j else i) (dCons (dVar 1) (dCons (dVar 2) dNil)))) (dCons (dFz (dCB (gI2 fun i j => if j > i then j else i) (dCons (dVar 1) (dCons (dVar 2) dNil)))) dNil))) (dFld K "table" (dVar 0)))))
theorem rd_Minds_minding {K : PySem.W.Frag} (M : MindsOk K) : ∀ ds Q, G_Minds_minding K ds Q → T_Minds_minding K { nx := fun _ => Q .non, rt := Q } (δof N_Minds_minding.length ds) := by
  rintro _ Q ⟨n, ps, a, b, rfl, h⟩
  simp only [T_Minds_minding, mK, dSeq, dIfS, dT, dTn, dTa, dTo, dOp, dVar, dC, dFz_eq, dCB, dCons, dNil, dCall, dCallB, dMeth, dMethB, dSet, dApp, dExt, dRet, dRetM, dNx, dDrop, dNeg, dAnd, dOr, dNot, dIf, dCh, dCh3, dU, dTup, dLst, dFld, dIsi, dIl, dIe, dIr1, dIr2, dIv1, dgN, dgT, putAll, dFor, dPar2, dPar3, dSetT, dLc, dYes, dSl, dNo, dSome, dRev, dNev, dSset, dCount, dIndex, dLrg1, dLrg2, dTwo, un_non, un_int, un_bl, un_str, un_lst, un_tup, un_obj, un_dct, un_scr, un_olst, un_oll, un_oobj, un_mv, un_m, un_p, pl_non, pl_int, pl_bl, pl_str, pl_lst, pl_tup, pl_obj, pl_dct, pl_scr, pl_m, pl_p, fzm_non, fzm_int, fzm_bl, fzm_lst, fzm_tup, fzm_obj, fzm_scr, fzm_olst, fzm_oll, fzm_oobj, fzm_m, frz_non, frz_int, frz_bl, frz_str, frz_lst, frz_tup, frz_obj, frz_dct, frz_scr, frz_olst, frz_oll, frz_m, fz_no, fz_tr, see_no, see_tr, asB_bl, asI_int, asgD_non, asgD_int, asgD_bl, asgD_lst, asgD_tup, asgD_obj, asgD_mv, asgD_m, it_lst, it_olst, it_scr, li_lst, li_olst, pit_lst, pit_scr, sz_lst, sz_olst, sz_oll, sz_scr, sz_tup, ad_int, ad_ll, ad_oo, ad_lo, ad_ol, mu_int, mu_l, mu_o, gI_int, gI0_int, gI2_int, ii_eqv, co_int, co_bl, co_non, co_row, co_rowO, co_nil, co_nilO, co_ps, co_p, co_p2, co_rows, ev_ll, ev_ol, ev_lo, ev_oo, ev_ln, ev_lno, ev_on, ev_ono, in_ps, in_row, gEq, gNe, gIn, gNotIn, g1, g2, gLen, gList, δof, List.getElem?_cons_zero, List.getElem?_cons_succ, List.getElem?_nil, List.set_cons_zero, List.set_cons_succ, List.map_cons, List.map_nil, List.length_cons, List.length_nil, List.replicate_succ, List.replicate_zero, List.cons_append, List.nil_append, Option.bind_some, Option.bind_none, List.all_cons, List.all_nil, List.append_nil, Nat.reduceAdd, Nat.reduceSub, true_and, and_true, Bool.and_true, Bool.true_and]
  by_cases e : a = b
  · subst e
    have z : mnd ps a a = true := by simp [mnd]
    rw [z] at h
    simp only [decide_true]
    exact h
  · simp only [decide_eq_false e, dSeq, dIfS, dT, dTn, dTa, dTo, dOp, dVar, dC, dFz_eq, dCB, dCons, dNil, dCall, dCallB, dMeth, dMethB, dSet, dApp, dExt, dRet, dRetM, dNx, dDrop, dNeg, dAnd, dOr, dNot, dIf, dCh, dCh3, dU, dTup, dLst, dFld, dIsi, dIl, dIe, dIr1, dIr2, dIv1, dgN, dgT, putAll, dFor, dPar2, dPar3, dSetT, dLc, dYes, dSl, dNo, dSome, dRev, dNev, dSset, dCount, dIndex, dLrg1, dLrg2, dTwo, un_non, un_int, un_bl, un_str, un_lst, un_tup, un_obj, un_dct, un_scr, un_olst, un_oll, un_oobj, un_mv, un_m, un_p, pl_non, pl_int, pl_bl, pl_str, pl_lst, pl_tup, pl_obj, pl_dct, pl_scr, pl_m, pl_p, fzm_non, fzm_int, fzm_bl, fzm_lst, fzm_tup, fzm_obj, fzm_scr, fzm_olst, fzm_oll, fzm_oobj, fzm_m, frz_non, frz_int, frz_bl, frz_str, frz_lst, frz_tup, frz_obj, frz_dct, frz_scr, frz_olst, frz_oll, frz_m, fz_no, fz_tr, see_no, see_tr, asB_bl, asI_int, asgD_non, asgD_int, asgD_bl, asgD_lst, asgD_tup, asgD_obj, asgD_mv, asgD_m, it_lst, it_olst, it_scr, li_lst, li_olst, pit_lst, pit_scr, sz_lst, sz_olst, sz_oll, sz_scr, sz_tup, ad_int, ad_ll, ad_oo, ad_lo, ad_ol, mu_int, mu_l, mu_o, gI_int, gI0_int, gI2_int, ii_eqv, co_int, co_bl, co_non, co_row, co_rowO, co_nil, co_nilO, co_ps, co_p, co_p2, co_rows, ev_ll, ev_ol, ev_lo, ev_oo, ev_ln, ev_lno, ev_on, ev_ono, in_ps, in_row, gEq, gNe, gIn, gNotIn, g1, g2, gLen, gList, δof, List.getElem?_cons_zero, List.getElem?_cons_succ, List.getElem?_nil, List.set_cons_zero, List.set_cons_succ, List.map_cons, List.map_nil, List.length_cons, List.length_nil, List.replicate_succ, List.replicate_zero, List.cons_append, List.nil_append, Option.bind_some, Option.bind_none, List.all_cons, List.all_nil, List.append_nil, Nat.reduceAdd, Nat.reduceSub, true_and, and_true, Bool.and_true, Bool.true_and]
    refine ⟨by decide, fld_table M ?_⟩
    have z : mnd ps a b = decide (((if b < a then b else a), (if b > a then b else a)) ∈ ps) := by simp [mnd, e]
    rw [z] at h
    exact h
def G_Minds_is_kind (K : PySem.W.Frag) : GD := fun ds P => ∃ n ps a, ds = [mK K n ps, .int a] ∧ P (.bl (decide (0 ≤ a ∧ a < n)))
/-! ### Minds.is_kind -/
abbrev N_Minds_is_kind : List Str := ["self", "thing"]
def T_Minds_is_kind (K : PySem.W.Frag) : DS := (dRet (dAnd (dCall (G_is_number K) (dCons (dVar 1) dNil)) (dCh gLe gLt (dC (.int 0)) (dVar 1) (dFld K "kinds" (dVar 0)))))
theorem rd_Minds_is_kind {K : PySem.W.Frag} (M : MindsOk K) : ∀ ds Q, G_Minds_is_kind K ds Q → T_Minds_is_kind K { nx := fun _ => Q .non, rt := Q } (δof N_Minds_is_kind.length ds) := by
  rintro _ Q ⟨n, ps, a, rfl, h⟩
  simp only [T_Minds_is_kind, mK, dSeq, dIfS, dT, dTn, dTa, dTo, dOp, dVar, dC, dFz_eq, dCB, dCons, dNil, dCall, dCallB, dMeth, dMethB, dSet, dApp, dExt, dRet, dRetM, dNx, dDrop, dNeg, dAnd, dOr, dNot, dIf, dCh, dCh3, dU, dTup, dLst, dFld, dIsi, dIl, dIe, dIr1, dIr2, dIv1, dgN, dgT, putAll, dFor, dPar2, dPar3, dSetT, dLc, dYes, dSl, dNo, dSome, dRev, dNev, dSset, dCount, dIndex, dLrg1, dLrg2, dTwo, un_non, un_int, un_bl, un_str, un_lst, un_tup, un_obj, un_dct, un_scr, un_olst, un_oll, un_oobj, un_mv, un_m, un_p, pl_non, pl_int, pl_bl, pl_str, pl_lst, pl_tup, pl_obj, pl_dct, pl_scr, pl_m, pl_p, fzm_non, fzm_int, fzm_bl, fzm_lst, fzm_tup, fzm_obj, fzm_scr, fzm_olst, fzm_oll, fzm_oobj, fzm_m, frz_non, frz_int, frz_bl, frz_str, frz_lst, frz_tup, frz_obj, frz_dct, frz_scr, frz_olst, frz_oll, frz_m, fz_no, fz_tr, see_no, see_tr, asB_bl, asI_int, asgD_non, asgD_int, asgD_bl, asgD_lst, asgD_tup, asgD_obj, asgD_mv, asgD_m, it_lst, it_olst, it_scr, li_lst, li_olst, pit_lst, pit_scr, sz_lst, sz_olst, sz_oll, sz_scr, sz_tup, ad_int, ad_ll, ad_oo, ad_lo, ad_ol, mu_int, mu_l, mu_o, gI_int, gI0_int, gI2_int, ii_eqv, co_int, co_bl, co_non, co_row, co_rowO, co_nil, co_nilO, co_ps, co_p, co_p2, co_rows, ev_ll, ev_ol, ev_lo, ev_oo, ev_ln, ev_lno, ev_on, ev_ono, in_ps, in_row, gEq, gNe, gIn, gNotIn, g1, g2, gLen, gList, δof, List.getElem?_cons_zero, List.getElem?_cons_succ, List.getElem?_nil, List.set_cons_zero, List.set_cons_succ, List.map_cons, List.map_nil, List.length_cons, List.length_nil, List.replicate_succ, List.replicate_zero, List.cons_append, List.nil_append, Option.bind_some, Option.bind_none, List.all_cons, List.all_nil, List.append_nil, Nat.reduceAdd, Nat.reduceSub, true_and, and_true, Bool.and_true, Bool.true_and]
  refine ⟨a, rfl, ?_⟩
  by_cases e : 0 ≤ a
  · simp only [decide_eq_true e, dSeq, dIfS, dT, dTn, dTa, dTo, dOp, dVar, dC, dFz_eq, dCB, dCons, dNil, dCall, dCallB, dMeth, dMethB, dSet, dApp, dExt, dRet, dRetM, dNx, dDrop, dNeg, dAnd, dOr, dNot, dIf, dCh, dCh3, dU, dTup, dLst, dFld, dIsi, dIl, dIe, dIr1, dIr2, dIv1, dgN, dgT, putAll, dFor, dPar2, dPar3, dSetT, dLc, dYes, dSl, dNo, dSome, dRev, dNev, dSset, dCount, dIndex, dLrg1, dLrg2, dTwo, un_non, un_int, un_bl, un_str, un_lst, un_tup, un_obj, un_dct, un_scr, un_olst, un_oll, un_oobj, un_mv, un_m, un_p, pl_non, pl_int, pl_bl, pl_str, pl_lst, pl_tup, pl_obj, pl_dct, pl_scr, pl_m, pl_p, fzm_non, fzm_int, fzm_bl, fzm_lst, fzm_tup, fzm_obj, fzm_scr, fzm_olst, fzm_oll, fzm_oobj, fzm_m, frz_non, frz_int, frz_bl, frz_str, frz_lst, frz_tup, frz_obj, frz_dct, frz_scr, frz_olst, frz_oll, frz_m, fz_no, fz_tr, see_no, see_tr, asB_bl, asI_int, asgD_non, asgD_int, asgD_bl, asgD_lst, asgD_tup, asgD_obj, asgD_mv, asgD_m, it_lst, it_olst, it_scr, li_lst, li_olst, pit_lst, pit_scr, sz_lst, sz_olst, sz_oll, sz_scr, sz_tup, ad_int, ad_ll, ad_oo, ad_lo, ad_ol, mu_int, mu_l, mu_o, gI_int, gI0_int, gI2_int, ii_eqv, co_int, co_bl, co_non, co_row, co_rowO, co_nil, co_nilO, co_ps, co_p, co_p2, co_rows, ev_ll, ev_ol, ev_lo, ev_oo, ev_ln, ev_lno, ev_on, ev_ono, in_ps, in_row, gEq, gNe, gIn, gNotIn, g1, g2, gLen, gList, δof, List.getElem?_cons_zero, List.getElem?_cons_succ, List.getElem?_nil, List.set_cons_zero, List.set_cons_succ, List.map_cons, List.map_nil, List.length_cons, List.length_nil, List.replicate_succ, List.replicate_zero, List.cons_append, List.nil_append, Option.bind_some, Option.bind_none, List.all_cons, List.all_nil, List.append_nil, Nat.reduceAdd, Nat.reduceSub, true_and, and_true, Bool.and_true, Bool.true_and]
    refine fld_kinds M ?_
    simp only [dSeq, dIfS, dT, dTn, dTa, dTo, dOp, dVar, dC, dFz_eq, dCB, dCons, dNil, dCall, dCallB, dMeth, dMethB, dSet, dApp, dExt, dRet, dRetM, dNx, dDrop, dNeg, dAnd, dOr, dNot, dIf, dCh, dCh3, dU, dTup, dLst, dFld, dIsi, dIl, dIe, dIr1, dIr2, dIv1, dgN, dgT, putAll, dFor, dPar2, dPar3, dSetT, dLc, dYes, dSl, dNo, dSome, dRev, dNev, dSset, dCount, dIndex, dLrg1, dLrg2, dTwo, un_non, un_int, un_bl, un_str, un_lst, un_tup, un_obj, un_dct, un_scr, un_olst, un_oll, un_oobj, un_mv, un_m, un_p, pl_non, pl_int, pl_bl, pl_str, pl_lst, pl_tup, pl_obj, pl_dct, pl_scr, pl_m, pl_p, fzm_non, fzm_int, fzm_bl, fzm_lst, fzm_tup, fzm_obj, fzm_scr, fzm_olst, fzm_oll, fzm_oobj, fzm_m, frz_non, frz_int, frz_bl, frz_str, frz_lst, frz_tup, frz_obj, frz_dct, frz_scr, frz_olst, frz_oll, frz_m, fz_no, fz_tr, see_no, see_tr, asB_bl, asI_int, asgD_non, asgD_int, asgD_bl, asgD_lst, asgD_tup, asgD_obj, asgD_mv, asgD_m, it_lst, it_olst, it_scr, li_lst, li_olst, pit_lst, pit_scr, sz_lst, sz_olst, sz_oll, sz_scr, sz_tup, ad_int, ad_ll, ad_oo, ad_lo, ad_ol, mu_int, mu_l, mu_o, gI_int, gI0_int, gI2_int, ii_eqv, co_int, co_bl, co_non, co_row, co_rowO, co_nil, co_nilO, co_ps, co_p, co_p2, co_rows, ev_ll, ev_ol, ev_lo, ev_oo, ev_ln, ev_lno, ev_on, ev_ono, in_ps, in_row, gEq, gNe, gIn, gNotIn, g1, g2, gLen, gList, δof, List.getElem?_cons_zero, List.getElem?_cons_succ, List.getElem?_nil, List.set_cons_zero, List.set_cons_succ, List.map_cons, List.map_nil, List.length_cons, List.length_nil, List.replicate_succ, List.replicate_zero, List.cons_append, List.nil_append, Option.bind_some, Option.bind_none, List.all_cons, List.all_nil, List.append_nil, Nat.reduceAdd, Nat.reduceSub, true_and, and_true, Bool.and_true, Bool.true_and]
    by_cases e2 : a < n
    · simpa [e, e2] using h
    · simpa [e, e2] using h
  · simp only [decide_eq_false e, dSeq, dIfS, dT, dTn, dTa, dTo, dOp, dVar, dC, dFz_eq, dCB, dCons, dNil, dCall, dCallB, dMeth, dMethB, dSet, dApp, dExt, dRet, dRetM, dNx, dDrop, dNeg, dAnd, dOr, dNot, dIf, dCh, dCh3, dU, dTup, dLst, dFld, dIsi, dIl, dIe, dIr1, dIr2, dIv1, dgN, dgT, putAll, dFor, dPar2, dPar3, dSetT, dLc, dYes, dSl, dNo, dSome, dRev, dNev, dSset, dCount, dIndex, dLrg1, dLrg2, dTwo, un_non, un_int, un_bl, un_str, un_lst, un_tup, un_obj, un_dct, un_scr, un_olst, un_oll, un_oobj, un_mv, un_m, un_p, pl_non, pl_int, pl_bl, pl_str, pl_lst, pl_tup, pl_obj, pl_dct, pl_scr, pl_m, pl_p, fzm_non, fzm_int, fzm_bl, fzm_lst, fzm_tup, fzm_obj, fzm_scr, fzm_olst, fzm_oll, fzm_oobj, fzm_m, frz_non, frz_int, frz_bl, frz_str, frz_lst, frz_tup, frz_obj, frz_dct, frz_scr, frz_olst, frz_oll, frz_m, fz_no, fz_tr, see_no, see_tr, asB_bl, asI_int, asgD_non, asgD_int, asgD_bl, asgD_lst, asgD_tup, asgD_obj, asgD_mv, asgD_m, it_lst, it_olst, it_scr, li_lst, li_olst, pit_lst, pit_scr, sz_lst, sz_olst, sz_oll, sz_scr, sz_tup, ad_int, ad_ll, ad_oo, ad_lo, ad_ol, mu_int, mu_l, mu_o, gI_int, gI0_int, gI2_int, ii_eqv, co_int, co_bl, co_non, co_row, co_rowO, co_nil, co_nilO, co_ps, co_p, co_p2, co_rows, ev_ll, ev_ol, ev_lo, ev_oo, ev_ln, ev_lno, ev_on, ev_ono, in_ps, in_row, gEq, gNe, gIn, gNotIn, g1, g2, gLen, gList, δof, List.getElem?_cons_zero, List.getElem?_cons_succ, List.getElem?_nil, List.set_cons_zero, List.set_cons_succ, List.map_cons, List.map_nil, List.length_cons, List.length_nil, List.replicate_succ, List.replicate_zero, List.cons_append, List.nil_append, Option.bind_some, Option.bind_none, List.all_cons, List.all_nil, List.append_nil, Nat.reduceAdd, Nat.reduceSub, true_and, and_true, Bool.and_true, Bool.true_and]
    simpa [e] using h
def G_check_row (K : PySem.W.Frag) : GD := fun ds P => ∃ n ps xs, ds = [mK K n ps, rD xs] ∧ Kinds n xs ∧ xs.length ≤ 1000 ∧ P .non
/-! ### check_row -/
abbrev N_check_row : List Str := ["minds", "row", "kind"]
def T_check_row_c1 (K : PySem.W.Frag) : DE := (dFz (dMeth (He.ga K "Minds") "is_kind" (G_Minds_is_kind K) (dVar 0) (dCons (dVar 2) dNil)))
def T_check_row (K : PySem.W.Frag) : DS := (dIfS (dTo (dTn (dT (dIsi K (.type "list") (dVar 1)))) (dTn (dT (dCB gAll (dCons (dLc 2 (dIl (dVar 1)) dYes (T_check_row_c1 K)) dNil))))) dNev dNx)
theorem check_row_c {K : PySem.W.Frag} {n : Int} {ps : List (Int × Int)} {P : D → Prop} {e2 : DV} {row : D} : ∀ (xs : List Int) (acc : List D), Kinds n xs → acc.length + xs.length ≤ 1000 → P (.mv (.olst (acc ++ xs.map fun _ => .bl true))) → compGo 2 dYes (T_check_row_c1 K) P (xs.map .int) acc [.tr (mK K n ps), .tr row, e2]
  | [], acc, _, _, h => by
    rw [List.map_nil, List.append_nil] at h
    exact h
  | x :: xs, acc, hx, hl, h => by
    rw [List.length_cons] at hl
    refine compGo_op fun N hN => ?_
    simp only [T_check_row_c1, mK, dSeq, dIfS, dT, dTn, dTa, dTo, dOp, dVar, dC, dFz_eq, dCB, dCons, dNil, dCall, dCallB, dMeth, dMethB, dSet, dApp, dExt, dRet, dRetM, dNx, dDrop, dNeg, dAnd, dOr, dNot, dIf, dCh, dCh3, dU, dTup, dLst, dFld, dIsi, dIl, dIe, dIr1, dIr2, dIv1, dgN, dgT, putAll, dFor, dPar2, dPar3, dSetT, dLc, dYes, dSl, dNo, dSome, dRev, dNev, dSset, dCount, dIndex, dLrg1, dLrg2, dTwo, un_non, un_int, un_bl, un_str, un_lst, un_tup, un_obj, un_dct, un_scr, un_olst, un_oll, un_oobj, un_mv, un_m, un_p, pl_non, pl_int, pl_bl, pl_str, pl_lst, pl_tup, pl_obj, pl_dct, pl_scr, pl_m, pl_p, fzm_non, fzm_int, fzm_bl, fzm_lst, fzm_tup, fzm_obj, fzm_scr, fzm_olst, fzm_oll, fzm_oobj, fzm_m, frz_non, frz_int, frz_bl, frz_str, frz_lst, frz_tup, frz_obj, frz_dct, frz_scr, frz_olst, frz_oll, frz_m, fz_no, fz_tr, see_no, see_tr, asB_bl, asI_int, asgD_non, asgD_int, asgD_bl, asgD_lst, asgD_tup, asgD_obj, asgD_mv, asgD_m, it_lst, it_olst, it_scr, li_lst, li_olst, pit_lst, pit_scr, sz_lst, sz_olst, sz_oll, sz_scr, sz_tup, ad_int, ad_ll, ad_oo, ad_lo, ad_ol, mu_int, mu_l, mu_o, gI_int, gI0_int, gI2_int, ii_eqv, co_int, co_bl, co_non, co_row, co_rowO, co_nil, co_nilO, co_ps, co_p, co_p2, co_rows, ev_ll, ev_ol, ev_lo, ev_oo, ev_ln, ev_lno, ev_on, ev_ono, in_ps, in_row, gEq, gNe, gIn, gNotIn, g1, g2, gLen, gList, δof, List.getElem?_cons_zero, List.getElem?_cons_succ, List.getElem?_nil, List.set_cons_zero, List.set_cons_succ, List.map_cons, List.map_nil, List.length_cons, List.length_nil, List.replicate_succ, List.replicate_zero, List.cons_append, List.nil_append, Option.bind_some, Option.bind_none, List.all_cons, List.all_nil, List.append_nil, Nat.reduceAdd, Nat.reduceSub, true_and, and_true, Bool.and_true, Bool.true_and]
    refine ⟨isA_is_kind, n, ps, x, rfl, ?_⟩
    have hx0 := hx x List.mem_cons_self
    simp only [decide_eq_true hx0, dSeq, dIfS, dT, dTn, dTa, dTo, dOp, dVar, dC, dFz_eq, dCB, dCons, dNil, dCall, dCallB, dMeth, dMethB, dSet, dApp, dExt, dRet, dRetM, dNx, dDrop, dNeg, dAnd, dOr, dNot, dIf, dCh, dCh3, dU, dTup, dLst, dFld, dIsi, dIl, dIe, dIr1, dIr2, dIv1, dgN, dgT, putAll, dFor, dPar2, dPar3, dSetT, dLc, dYes, dSl, dNo, dSome, dRev, dNev, dSset, dCount, dIndex, dLrg1, dLrg2, dTwo, un_non, un_int, un_bl, un_str, un_lst, un_tup, un_obj, un_dct, un_scr, un_olst, un_oll, un_oobj, un_mv, un_m, un_p, pl_non, pl_int, pl_bl, pl_str, pl_lst, pl_tup, pl_obj, pl_dct, pl_scr, pl_m, pl_p, fzm_non, fzm_int, fzm_bl, fzm_lst, fzm_tup, fzm_obj, fzm_scr, fzm_olst, fzm_oll, fzm_oobj, fzm_m, frz_non, frz_int, frz_bl, frz_str, frz_lst, frz_tup, frz_obj, frz_dct, frz_scr, frz_olst, frz_oll, frz_m, fz_no, fz_tr, see_no, see_tr, asB_bl, asI_int, asgD_non, asgD_int, asgD_bl, asgD_lst, asgD_tup, asgD_obj, asgD_mv, asgD_m, it_lst, it_olst, it_scr, li_lst, li_olst, pit_lst, pit_scr, sz_lst, sz_olst, sz_oll, sz_scr, sz_tup, ad_int, ad_ll, ad_oo, ad_lo, ad_ol, mu_int, mu_l, mu_o, gI_int, gI0_int, gI2_int, ii_eqv, co_int, co_bl, co_non, co_row, co_rowO, co_nil, co_nilO, co_ps, co_p, co_p2, co_rows, ev_ll, ev_ol, ev_lo, ev_oo, ev_ln, ev_lno, ev_on, ev_ono, in_ps, in_row, gEq, gNe, gIn, gNotIn, g1, g2, gLen, gList, δof, List.getElem?_cons_zero, List.getElem?_cons_succ, List.getElem?_nil, List.set_cons_zero, List.set_cons_succ, List.map_cons, List.map_nil, List.length_cons, List.length_nil, List.replicate_succ, List.replicate_zero, List.cons_append, List.nil_append, Option.bind_some, Option.bind_none, List.all_cons, List.all_nil, List.append_nil, Nat.reduceAdd, Nat.reduceSub, true_and, and_true, Bool.and_true, Bool.true_and]
    refine ⟨by omega, ?_⟩
    rw [hN]
    refine check_row_c (K := K) (n := n) (ps := ps) (row := row) (e2 := e2) xs _ (fun y hy => hx y (List.mem_cons_of_mem _ hy)) (by rw [List.length_append, List.length_cons, List.length_nil]; omega) ?_
    rw [List.append_assoc]
    exact h
theorem bools_map {α : Type} (xs : List α) (f : α → Bool) : (D.olst (xs.map fun x => .bl (f x))).bools = some (xs.map f) := by
  show (xs.map fun x => D.bl (f x)).foldr _ _ = _
  induction xs with
  | nil => rfl
  | cons x xs ih => rw [List.map_cons, List.foldr_cons, ih]; rfl
theorem ga_map {α : Type} {xs : List α} {f : α → Bool} {P : D → Prop} (h : P (.bl (xs.all f))) : gAll [.olst (xs.map fun x => .bl (f x))] P := by
  show (match (D.olst (xs.map fun x => .bl (f x))).bools with
    | some bs => P (.bl (bs.all id))
    | none => False)
  rw [bools_map, ]
  show P (.bl ((xs.map f).all id))
  rw [List.all_map]
  exact h
theorem gy_map {α : Type} {xs : List α} {f : α → Bool} {P : D → Prop} (h : P (.bl (xs.any f))) : gAny [.olst (xs.map fun x => .bl (f x))] P := by
  show (match (D.olst (xs.map fun x => .bl (f x))).bools with
    | some bs => P (.bl (bs.any id))
    | none => False)
  rw [bools_map, ]
  show P (.bl ((xs.map f).any id))
  rw [List.any_map]
  exact h
theorem rd_check_row {K : PySem.W.Frag} : ∀ ds Q, G_check_row K ds Q → T_check_row K { nx := fun _ => Q .non, rt := Q } (δof N_check_row.length ds) := by
  rintro _ Q ⟨n, ps, xs, rfl, hx, hl, h⟩
  simp only [T_check_row, mK, rD, dSeq, dIfS, dT, dTn, dTa, dTo, dOp, dVar, dC, dFz_eq, dCB, dCons, dNil, dCall, dCallB, dMeth, dMethB, dSet, dApp, dExt, dRet, dRetM, dNx, dDrop, dNeg, dAnd, dOr, dNot, dIf, dCh, dCh3, dU, dTup, dLst, dFld, dIsi, dIl, dIe, dIr1, dIr2, dIv1, dgN, dgT, putAll, dFor, dPar2, dPar3, dSetT, dLc, dYes, dSl, dNo, dSome, dRev, dNev, dSset, dCount, dIndex, dLrg1, dLrg2, dTwo, un_non, un_int, un_bl, un_str, un_lst, un_tup, un_obj, un_dct, un_scr, un_olst, un_oll, un_oobj, un_mv, un_m, un_p, pl_non, pl_int, pl_bl, pl_str, pl_lst, pl_tup, pl_obj, pl_dct, pl_scr, pl_m, pl_p, fzm_non, fzm_int, fzm_bl, fzm_lst, fzm_tup, fzm_obj, fzm_scr, fzm_olst, fzm_oll, fzm_oobj, fzm_m, frz_non, frz_int, frz_bl, frz_str, frz_lst, frz_tup, frz_obj, frz_dct, frz_scr, frz_olst, frz_oll, frz_m, fz_no, fz_tr, see_no, see_tr, asB_bl, asI_int, asgD_non, asgD_int, asgD_bl, asgD_lst, asgD_tup, asgD_obj, asgD_mv, asgD_m, it_lst, it_olst, it_scr, li_lst, li_olst, pit_lst, pit_scr, sz_lst, sz_olst, sz_oll, sz_scr, sz_tup, ad_int, ad_ll, ad_oo, ad_lo, ad_ol, mu_int, mu_l, mu_o, gI_int, gI0_int, gI2_int, ii_eqv, co_int, co_bl, co_non, co_row, co_rowO, co_nil, co_nilO, co_ps, co_p, co_p2, co_rows, ev_ll, ev_ol, ev_lo, ev_oo, ev_ln, ev_lno, ev_on, ev_ono, in_ps, in_row, gEq, gNe, gIn, gNotIn, g1, g2, gLen, gList, δof, List.getElem?_cons_zero, List.getElem?_cons_succ, List.getElem?_nil, List.set_cons_zero, List.set_cons_succ, List.map_cons, List.map_nil, List.length_cons, List.length_nil, List.replicate_succ, List.replicate_zero, List.cons_append, List.nil_append, Option.bind_some, Option.bind_none, List.all_cons, List.all_nil, List.append_nil, Nat.reduceAdd, Nat.reduceSub, true_and, and_true, Bool.and_true, Bool.true_and]
  refine ⟨true, rfl, ?_⟩
  simp only [dSeq, dIfS, dT, dTn, dTa, dTo, dOp, dVar, dC, dFz_eq, dCB, dCons, dNil, dCall, dCallB, dMeth, dMethB, dSet, dApp, dExt, dRet, dRetM, dNx, dDrop, dNeg, dAnd, dOr, dNot, dIf, dCh, dCh3, dU, dTup, dLst, dFld, dIsi, dIl, dIe, dIr1, dIr2, dIv1, dgN, dgT, putAll, dFor, dPar2, dPar3, dSetT, dLc, dYes, dSl, dNo, dSome, dRev, dNev, dSset, dCount, dIndex, dLrg1, dLrg2, dTwo, un_non, un_int, un_bl, un_str, un_lst, un_tup, un_obj, un_dct, un_scr, un_olst, un_oll, un_oobj, un_mv, un_m, un_p, pl_non, pl_int, pl_bl, pl_str, pl_lst, pl_tup, pl_obj, pl_dct, pl_scr, pl_m, pl_p, fzm_non, fzm_int, fzm_bl, fzm_lst, fzm_tup, fzm_obj, fzm_scr, fzm_olst, fzm_oll, fzm_oobj, fzm_m, frz_non, frz_int, frz_bl, frz_str, frz_lst, frz_tup, frz_obj, frz_dct, frz_scr, frz_olst, frz_oll, frz_m, fz_no, fz_tr, see_no, see_tr, asB_bl, asI_int, asgD_non, asgD_int, asgD_bl, asgD_lst, asgD_tup, asgD_obj, asgD_mv, asgD_m, it_lst, it_olst, it_scr, li_lst, li_olst, pit_lst, pit_scr, sz_lst, sz_olst, sz_oll, sz_scr, sz_tup, ad_int, ad_ll, ad_oo, ad_lo, ad_ol, mu_int, mu_l, mu_o, gI_int, gI0_int, gI2_int, ii_eqv, co_int, co_bl, co_non, co_row, co_rowO, co_nil, co_nilO, co_ps, co_p, co_p2, co_rows, ev_ll, ev_ol, ev_lo, ev_oo, ev_ln, ev_lno, ev_on, ev_ono, in_ps, in_row, gEq, gNe, gIn, gNotIn, g1, g2, gLen, gList, δof, List.getElem?_cons_zero, List.getElem?_cons_succ, List.getElem?_nil, List.set_cons_zero, List.set_cons_succ, List.map_cons, List.map_nil, List.length_cons, List.length_nil, List.replicate_succ, List.replicate_zero, List.cons_append, List.nil_append, Option.bind_some, Option.bind_none, List.all_cons, List.all_nil, List.append_nil, Nat.reduceAdd, Nat.reduceSub, true_and, and_true, Bool.and_true, Bool.true_and]
  refine check_row_c xs [] hx (by simpa using hl) ?_
  simp only [dSeq, dIfS, dT, dTn, dTa, dTo, dOp, dVar, dC, dFz_eq, dCB, dCons, dNil, dCall, dCallB, dMeth, dMethB, dSet, dApp, dExt, dRet, dRetM, dNx, dDrop, dNeg, dAnd, dOr, dNot, dIf, dCh, dCh3, dU, dTup, dLst, dFld, dIsi, dIl, dIe, dIr1, dIr2, dIv1, dgN, dgT, putAll, dFor, dPar2, dPar3, dSetT, dLc, dYes, dSl, dNo, dSome, dRev, dNev, dSset, dCount, dIndex, dLrg1, dLrg2, dTwo, un_non, un_int, un_bl, un_str, un_lst, un_tup, un_obj, un_dct, un_scr, un_olst, un_oll, un_oobj, un_mv, un_m, un_p, pl_non, pl_int, pl_bl, pl_str, pl_lst, pl_tup, pl_obj, pl_dct, pl_scr, pl_m, pl_p, fzm_non, fzm_int, fzm_bl, fzm_lst, fzm_tup, fzm_obj, fzm_scr, fzm_olst, fzm_oll, fzm_oobj, fzm_m, frz_non, frz_int, frz_bl, frz_str, frz_lst, frz_tup, frz_obj, frz_dct, frz_scr, frz_olst, frz_oll, frz_m, fz_no, fz_tr, see_no, see_tr, asB_bl, asI_int, asgD_non, asgD_int, asgD_bl, asgD_lst, asgD_tup, asgD_obj, asgD_mv, asgD_m, it_lst, it_olst, it_scr, li_lst, li_olst, pit_lst, pit_scr, sz_lst, sz_olst, sz_oll, sz_scr, sz_tup, ad_int, ad_ll, ad_oo, ad_lo, ad_ol, mu_int, mu_l, mu_o, gI_int, gI0_int, gI2_int, ii_eqv, co_int, co_bl, co_non, co_row, co_rowO, co_nil, co_nilO, co_ps, co_p, co_p2, co_rows, ev_ll, ev_ol, ev_lo, ev_oo, ev_ln, ev_lno, ev_on, ev_ono, in_ps, in_row, gEq, gNe, gIn, gNotIn, g1, g2, gLen, gList, δof, List.getElem?_cons_zero, List.getElem?_cons_succ, List.getElem?_nil, List.set_cons_zero, List.set_cons_succ, List.map_cons, List.map_nil, List.length_cons, List.length_nil, List.replicate_succ, List.replicate_zero, List.cons_append, List.nil_append, Option.bind_some, Option.bind_none, List.all_cons, List.all_nil, List.append_nil, Nat.reduceAdd, Nat.reduceSub, true_and, and_true, Bool.and_true, Bool.true_and]
  refine ga_map ?_
  have z : (xs.all fun _ => true) = true := by simp
  rw [z]
  exact h
def pf (m : Int → Int → Bool) (k : Int) : List Int → Nat → Int
  | [], _ => -1
  | x :: xs, i => if x = k then (i : Int) else if m x k then -1 else pf m k xs (i + 1)
def G_place_first (K : PySem.W.Frag) : GD := fun ds P => ∃ n ps xs k, ds = [mK K n ps, rD xs, .int k] ∧ P (.int (pf (mnd ps) k xs 0))
/-! ### place_first -/
abbrev N_place_first : List Str := ["minds", "row", "kind", "place", "other"]
def T_place_first_f1 (K : PySem.W.Frag) : DS := (dSeq (dIfS (dT (dOp gEq (dVar 4) (dVar 2))) (dRet (dVar 3)) dNx)
  (dIfS (dT (dMeth (He.ga K "Minds") "minding" (G_Minds_minding K) (dVar 0) (dCons (dVar 4) (dCons (dVar 2) dNil)))) (dRet (dNeg (dC (.int 1)))) dNx))
def T_place_first (K : PySem.W.Frag) : DS := (dSeq (dFor (dIe (dCons (dVar 1) dNil)) (dgT [3, 4]) (T_place_first_f1 K))
  (dRet (dNeg (dC (.int 1)))))
theorem pf_loop {K : PySem.W.Frag} {n : Int} {ps : List (Int × Int)} {k : Int} {row : D} {E : EndsD} : ∀ (xs : List Int) (i : Nat) (e1 e2 : DV) (P : Int → Prop), (∀ j, P j → E.rt (.int j)) → (P (-1) → ∀ e1 e2, E.nx [.tr (mK K n ps), .tr row, .tr (.int k), e1, e2]) → P (pf (mnd ps) k xs i) →
    forGo (dgT [3, 4]) (T_place_first_f1 K) E (((xs.map D.int).zipIdx i).map fun p => D.tup [.int (p.2 : Int), p.1]) [.tr (mK K n ps), .tr row, .tr (.int k), e1, e2]
  | [], i, e1, e2, P, h1, h2, h => h2 h e1 e2
  | x :: xs, i, e1, e2, P, h1, h2, h => by
    rw [List.map_cons, List.zipIdx_cons, List.map_cons]
    refine forGo_op fun N hN => ?_
    simp only [T_place_first_f1, mK, dSeq, dIfS, dT, dTn, dTa, dTo, dOp, dVar, dC, dFz_eq, dCB, dCons, dNil, dCall, dCallB, dMeth, dMethB, dSet, dApp, dExt, dRet, dRetM, dNx, dDrop, dNeg, dAnd, dOr, dNot, dIf, dCh, dCh3, dU, dTup, dLst, dFld, dIsi, dIl, dIe, dIr1, dIr2, dIv1, dgN, dgT, putAll, dFor, dPar2, dPar3, dSetT, dLc, dYes, dSl, dNo, dSome, dRev, dNev, dSset, dCount, dIndex, dLrg1, dLrg2, dTwo, un_non, un_int, un_bl, un_str, un_lst, un_tup, un_obj, un_dct, un_scr, un_olst, un_oll, un_oobj, un_mv, un_m, un_p, pl_non, pl_int, pl_bl, pl_str, pl_lst, pl_tup, pl_obj, pl_dct, pl_scr, pl_m, pl_p, fzm_non, fzm_int, fzm_bl, fzm_lst, fzm_tup, fzm_obj, fzm_scr, fzm_olst, fzm_oll, fzm_oobj, fzm_m, frz_non, frz_int, frz_bl, frz_str, frz_lst, frz_tup, frz_obj, frz_dct, frz_scr, frz_olst, frz_oll, frz_m, fz_no, fz_tr, see_no, see_tr, asB_bl, asI_int, asgD_non, asgD_int, asgD_bl, asgD_lst, asgD_tup, asgD_obj, asgD_mv, asgD_m, it_lst, it_olst, it_scr, li_lst, li_olst, pit_lst, pit_scr, sz_lst, sz_olst, sz_oll, sz_scr, sz_tup, ad_int, ad_ll, ad_oo, ad_lo, ad_ol, mu_int, mu_l, mu_o, gI_int, gI0_int, gI2_int, ii_eqv, co_int, co_bl, co_non, co_row, co_rowO, co_nil, co_nilO, co_ps, co_p, co_p2, co_rows, ev_ll, ev_ol, ev_lo, ev_oo, ev_ln, ev_lno, ev_on, ev_ono, in_ps, in_row, gEq, gNe, gIn, gNotIn, g1, g2, gLen, gList, δof, List.getElem?_cons_zero, List.getElem?_cons_succ, List.getElem?_nil, List.set_cons_zero, List.set_cons_succ, List.map_cons, List.map_nil, List.length_cons, List.length_nil, List.replicate_succ, List.replicate_zero, List.cons_append, List.nil_append, Option.bind_some, Option.bind_none, List.all_cons, List.all_nil, List.append_nil, Nat.reduceAdd, Nat.reduceSub, true_and, and_true, Bool.and_true, Bool.true_and]
    unfold pf at h
    by_cases hk : x = k
    · rw [if_pos hk] at h
      simp only [hk, decide_true, dSeq, dIfS, dT, dTn, dTa, dTo, dOp, dVar, dC, dFz_eq, dCB, dCons, dNil, dCall, dCallB, dMeth, dMethB, dSet, dApp, dExt, dRet, dRetM, dNx, dDrop, dNeg, dAnd, dOr, dNot, dIf, dCh, dCh3, dU, dTup, dLst, dFld, dIsi, dIl, dIe, dIr1, dIr2, dIv1, dgN, dgT, putAll, dFor, dPar2, dPar3, dSetT, dLc, dYes, dSl, dNo, dSome, dRev, dNev, dSset, dCount, dIndex, dLrg1, dLrg2, dTwo, un_non, un_int, un_bl, un_str, un_lst, un_tup, un_obj, un_dct, un_scr, un_olst, un_oll, un_oobj, un_mv, un_m, un_p, pl_non, pl_int, pl_bl, pl_str, pl_lst, pl_tup, pl_obj, pl_dct, pl_scr, pl_m, pl_p, fzm_non, fzm_int, fzm_bl, fzm_lst, fzm_tup, fzm_obj, fzm_scr, fzm_olst, fzm_oll, fzm_oobj, fzm_m, frz_non, frz_int, frz_bl, frz_str, frz_lst, frz_tup, frz_obj, frz_dct, frz_scr, frz_olst, frz_oll, frz_m, fz_no, fz_tr, see_no, see_tr, asB_bl, asI_int, asgD_non, asgD_int, asgD_bl, asgD_lst, asgD_tup, asgD_obj, asgD_mv, asgD_m, it_lst, it_olst, it_scr, li_lst, li_olst, pit_lst, pit_scr, sz_lst, sz_olst, sz_oll, sz_scr, sz_tup, ad_int, ad_ll, ad_oo, ad_lo, ad_ol, mu_int, mu_l, mu_o, gI_int, gI0_int, gI2_int, ii_eqv, co_int, co_bl, co_non, co_row, co_rowO, co_nil, co_nilO, co_ps, co_p, co_p2, co_rows, ev_ll, ev_ol, ev_lo, ev_oo, ev_ln, ev_lno, ev_on, ev_ono, in_ps, in_row, gEq, gNe, gIn, gNotIn, g1, g2, gLen, gList, δof, List.getElem?_cons_zero, List.getElem?_cons_succ, List.getElem?_nil, List.set_cons_zero, List.set_cons_succ, List.map_cons, List.map_nil, List.length_cons, List.length_nil, List.replicate_succ, List.replicate_zero, List.cons_append, List.nil_append, Option.bind_some, Option.bind_none, List.all_cons, List.all_nil, List.append_nil, Nat.reduceAdd, Nat.reduceSub, true_and, and_true, Bool.and_true, Bool.true_and]
      exact h1 _ h
    · rw [if_neg hk] at h
      simp only [decide_eq_false hk, dSeq, dIfS, dT, dTn, dTa, dTo, dOp, dVar, dC, dFz_eq, dCB, dCons, dNil, dCall, dCallB, dMeth, dMethB, dSet, dApp, dExt, dRet, dRetM, dNx, dDrop, dNeg, dAnd, dOr, dNot, dIf, dCh, dCh3, dU, dTup, dLst, dFld, dIsi, dIl, dIe, dIr1, dIr2, dIv1, dgN, dgT, putAll, dFor, dPar2, dPar3, dSetT, dLc, dYes, dSl, dNo, dSome, dRev, dNev, dSset, dCount, dIndex, dLrg1, dLrg2, dTwo, un_non, un_int, un_bl, un_str, un_lst, un_tup, un_obj, un_dct, un_scr, un_olst, un_oll, un_oobj, un_mv, un_m, un_p, pl_non, pl_int, pl_bl, pl_str, pl_lst, pl_tup, pl_obj, pl_dct, pl_scr, pl_m, pl_p, fzm_non, fzm_int, fzm_bl, fzm_lst, fzm_tup, fzm_obj, fzm_scr, fzm_olst, fzm_oll, fzm_oobj, fzm_m, frz_non, frz_int, frz_bl, frz_str, frz_lst, frz_tup, frz_obj, frz_dct, frz_scr, frz_olst, frz_oll, frz_m, fz_no, fz_tr, see_no, see_tr, asB_bl, asI_int, asgD_non, asgD_int, asgD_bl, asgD_lst, asgD_tup, asgD_obj, asgD_mv, asgD_m, it_lst, it_olst, it_scr, li_lst, li_olst, pit_lst, pit_scr, sz_lst, sz_olst, sz_oll, sz_scr, sz_tup, ad_int, ad_ll, ad_oo, ad_lo, ad_ol, mu_int, mu_l, mu_o, gI_int, gI0_int, gI2_int, ii_eqv, co_int, co_bl, co_non, co_row, co_rowO, co_nil, co_nilO, co_ps, co_p, co_p2, co_rows, ev_ll, ev_ol, ev_lo, ev_oo, ev_ln, ev_lno, ev_on, ev_ono, in_ps, in_row, gEq, gNe, gIn, gNotIn, g1, g2, gLen, gList, δof, List.getElem?_cons_zero, List.getElem?_cons_succ, List.getElem?_nil, List.set_cons_zero, List.set_cons_succ, List.map_cons, List.map_nil, List.length_cons, List.length_nil, List.replicate_succ, List.replicate_zero, List.cons_append, List.nil_append, Option.bind_some, Option.bind_none, List.all_cons, List.all_nil, List.append_nil, Nat.reduceAdd, Nat.reduceSub, true_and, and_true, Bool.and_true, Bool.true_and]
      refine ⟨isA_minding, n, ps, x, k, rfl, ?_⟩
      cases hm : mnd ps x k with
      | true =>
        rw [if_pos hm] at h
        simp only [dSeq, dIfS, dT, dTn, dTa, dTo, dOp, dVar, dC, dFz_eq, dCB, dCons, dNil, dCall, dCallB, dMeth, dMethB, dSet, dApp, dExt, dRet, dRetM, dNx, dDrop, dNeg, dAnd, dOr, dNot, dIf, dCh, dCh3, dU, dTup, dLst, dFld, dIsi, dIl, dIe, dIr1, dIr2, dIv1, dgN, dgT, putAll, dFor, dPar2, dPar3, dSetT, dLc, dYes, dSl, dNo, dSome, dRev, dNev, dSset, dCount, dIndex, dLrg1, dLrg2, dTwo, un_non, un_int, un_bl, un_str, un_lst, un_tup, un_obj, un_dct, un_scr, un_olst, un_oll, un_oobj, un_mv, un_m, un_p, pl_non, pl_int, pl_bl, pl_str, pl_lst, pl_tup, pl_obj, pl_dct, pl_scr, pl_m, pl_p, fzm_non, fzm_int, fzm_bl, fzm_lst, fzm_tup, fzm_obj, fzm_scr, fzm_olst, fzm_oll, fzm_oobj, fzm_m, frz_non, frz_int, frz_bl, frz_str, frz_lst, frz_tup, frz_obj, frz_dct, frz_scr, frz_olst, frz_oll, frz_m, fz_no, fz_tr, see_no, see_tr, asB_bl, asI_int, asgD_non, asgD_int, asgD_bl, asgD_lst, asgD_tup, asgD_obj, asgD_mv, asgD_m, it_lst, it_olst, it_scr, li_lst, li_olst, pit_lst, pit_scr, sz_lst, sz_olst, sz_oll, sz_scr, sz_tup, ad_int, ad_ll, ad_oo, ad_lo, ad_ol, mu_int, mu_l, mu_o, gI_int, gI0_int, gI2_int, ii_eqv, co_int, co_bl, co_non, co_row, co_rowO, co_nil, co_nilO, co_ps, co_p, co_p2, co_rows, ev_ll, ev_ol, ev_lo, ev_oo, ev_ln, ev_lno, ev_on, ev_ono, in_ps, in_row, gEq, gNe, gIn, gNotIn, g1, g2, gLen, gList, δof, List.getElem?_cons_zero, List.getElem?_cons_succ, List.getElem?_nil, List.set_cons_zero, List.set_cons_succ, List.map_cons, List.map_nil, List.length_cons, List.length_nil, List.replicate_succ, List.replicate_zero, List.cons_append, List.nil_append, Option.bind_some, Option.bind_none, List.all_cons, List.all_nil, List.append_nil, Nat.reduceAdd, Nat.reduceSub, true_and, and_true, Bool.and_true, Bool.true_and]
        exact h1 _ h
      | false =>
        rw [if_neg (by rw [hm]; decide)] at h
        simp only [dSeq, dIfS, dT, dTn, dTa, dTo, dOp, dVar, dC, dFz_eq, dCB, dCons, dNil, dCall, dCallB, dMeth, dMethB, dSet, dApp, dExt, dRet, dRetM, dNx, dDrop, dNeg, dAnd, dOr, dNot, dIf, dCh, dCh3, dU, dTup, dLst, dFld, dIsi, dIl, dIe, dIr1, dIr2, dIv1, dgN, dgT, putAll, dFor, dPar2, dPar3, dSetT, dLc, dYes, dSl, dNo, dSome, dRev, dNev, dSset, dCount, dIndex, dLrg1, dLrg2, dTwo, un_non, un_int, un_bl, un_str, un_lst, un_tup, un_obj, un_dct, un_scr, un_olst, un_oll, un_oobj, un_mv, un_m, un_p, pl_non, pl_int, pl_bl, pl_str, pl_lst, pl_tup, pl_obj, pl_dct, pl_scr, pl_m, pl_p, fzm_non, fzm_int, fzm_bl, fzm_lst, fzm_tup, fzm_obj, fzm_scr, fzm_olst, fzm_oll, fzm_oobj, fzm_m, frz_non, frz_int, frz_bl, frz_str, frz_lst, frz_tup, frz_obj, frz_dct, frz_scr, frz_olst, frz_oll, frz_m, fz_no, fz_tr, see_no, see_tr, asB_bl, asI_int, asgD_non, asgD_int, asgD_bl, asgD_lst, asgD_tup, asgD_obj, asgD_mv, asgD_m, it_lst, it_olst, it_scr, li_lst, li_olst, pit_lst, pit_scr, sz_lst, sz_olst, sz_oll, sz_scr, sz_tup, ad_int, ad_ll, ad_oo, ad_lo, ad_ol, mu_int, mu_l, mu_o, gI_int, gI0_int, gI2_int, ii_eqv, co_int, co_bl, co_non, co_row, co_rowO, co_nil, co_nilO, co_ps, co_p, co_p2, co_rows, ev_ll, ev_ol, ev_lo, ev_oo, ev_ln, ev_lno, ev_on, ev_ono, in_ps, in_row, gEq, gNe, gIn, gNotIn, g1, g2, gLen, gList, δof, List.getElem?_cons_zero, List.getElem?_cons_succ, List.getElem?_nil, List.set_cons_zero, List.set_cons_succ, List.map_cons, List.map_nil, List.length_cons, List.length_nil, List.replicate_succ, List.replicate_zero, List.cons_append, List.nil_append, Option.bind_some, Option.bind_none, List.all_cons, List.all_nil, List.append_nil, Nat.reduceAdd, Nat.reduceSub, true_and, and_true, Bool.and_true, Bool.true_and]
        rw [hN]
        exact pf_loop xs (i + 1) _ _ P h1 h2 h
theorem rd_place_first {K : PySem.W.Frag} : ∀ ds Q, G_place_first K ds Q → T_place_first K { nx := fun _ => Q .non, rt := Q } (δof N_place_first.length ds) := by
  rintro _ Q ⟨n, ps, xs, k, rfl, h⟩
  simp only [T_place_first, mK, rD, dSeq, dIfS, dT, dTn, dTa, dTo, dOp, dVar, dC, dFz_eq, dCB, dCons, dNil, dCall, dCallB, dMeth, dMethB, dSet, dApp, dExt, dRet, dRetM, dNx, dDrop, dNeg, dAnd, dOr, dNot, dIf, dCh, dCh3, dU, dTup, dLst, dFld, dIsi, dIl, dIe, dIr1, dIr2, dIv1, dgN, dgT, putAll, dFor, dPar2, dPar3, dSetT, dLc, dYes, dSl, dNo, dSome, dRev, dNev, dSset, dCount, dIndex, dLrg1, dLrg2, dTwo, un_non, un_int, un_bl, un_str, un_lst, un_tup, un_obj, un_dct, un_scr, un_olst, un_oll, un_oobj, un_mv, un_m, un_p, pl_non, pl_int, pl_bl, pl_str, pl_lst, pl_tup, pl_obj, pl_dct, pl_scr, pl_m, pl_p, fzm_non, fzm_int, fzm_bl, fzm_lst, fzm_tup, fzm_obj, fzm_scr, fzm_olst, fzm_oll, fzm_oobj, fzm_m, frz_non, frz_int, frz_bl, frz_str, frz_lst, frz_tup, frz_obj, frz_dct, frz_scr, frz_olst, frz_oll, frz_m, fz_no, fz_tr, see_no, see_tr, asB_bl, asI_int, asgD_non, asgD_int, asgD_bl, asgD_lst, asgD_tup, asgD_obj, asgD_mv, asgD_m, it_lst, it_olst, it_scr, li_lst, li_olst, pit_lst, pit_scr, sz_lst, sz_olst, sz_oll, sz_scr, sz_tup, ad_int, ad_ll, ad_oo, ad_lo, ad_ol, mu_int, mu_l, mu_o, gI_int, gI0_int, gI2_int, ii_eqv, co_int, co_bl, co_non, co_row, co_rowO, co_nil, co_nilO, co_ps, co_p, co_p2, co_rows, ev_ll, ev_ol, ev_lo, ev_oo, ev_ln, ev_lno, ev_on, ev_ono, in_ps, in_row, gEq, gNe, gIn, gNotIn, g1, g2, gLen, gList, δof, List.getElem?_cons_zero, List.getElem?_cons_succ, List.getElem?_nil, List.set_cons_zero, List.set_cons_succ, List.map_cons, List.map_nil, List.length_cons, List.length_nil, List.replicate_succ, List.replicate_zero, List.cons_append, List.nil_append, Option.bind_some, Option.bind_none, List.all_cons, List.all_nil, List.append_nil, Nat.reduceAdd, Nat.reduceSub, true_and, and_true, Bool.and_true, Bool.true_and]
  exact pf_loop xs 0 _ _ (fun j => Q (.int j)) (fun j hj => hj) (fun hj e1 e2 => hj) h
def G_without (_K : PySem.W.Frag) : GD := fun ds P => ∃ xs k, ds = [rD xs, .int (k : Nat)] ∧ k < xs.length ∧ xs.length ≤ 1000 ∧ P (.mv (.olst ((xs.eraseIdx k).map .int)))
/-! ### without -/
abbrev N_without : List Str := ["row", "place"]
def T_without (K : PySem.W.Frag) : DS := (dRet (dOp gAdd (dSl (dVar 0) dNo (dSome (dVar 1))) (dSl (dVar 0) (dSome (dOp gAdd (dVar 1) (dC (.int 1)))) dNo)))
theorem cut_to {α : Type} {xs : List α} {k : Nat} (h : k ≤ xs.length) : cutD xs none (some (k : Int)) = xs.take k := by
  unfold cutD
  rw [HT.sIx_none, HT.sIx_nat, List.drop_zero, Nat.min_eq_left h, Nat.sub_zero]
theorem cut_from {α : Type} {xs : List α} {k : Nat} (h : k ≤ xs.length) : cutD xs (some (k : Int)) none = xs.drop k := by
  unfold cutD
  rw [HT.sIx_none, HT.sIx_nat, Nat.min_eq_left h]
  exact List.take_of_length_le (by rw [List.length_drop]; exact Nat.le_refl _)
theorem rd_without {K : PySem.W.Frag} : ∀ ds Q, G_without K ds Q → T_without K { nx := fun _ => Q .non, rt := Q } (δof N_without.length ds) := by
  rintro _ Q ⟨xs, k, rfl, hk, hl, h⟩
  simp only [T_without, rD, dSeq, dIfS, dT, dTn, dTa, dTo, dOp, dVar, dC, dFz_eq, dCB, dCons, dNil, dCall, dCallB, dMeth, dMethB, dSet, dApp, dExt, dRet, dRetM, dNx, dDrop, dNeg, dAnd, dOr, dNot, dIf, dCh, dCh3, dU, dTup, dLst, dFld, dIsi, dIl, dIe, dIr1, dIr2, dIv1, dgN, dgT, putAll, dFor, dPar2, dPar3, dSetT, dLc, dYes, dSl, dNo, dSome, dRev, dNev, dSset, dCount, dIndex, dLrg1, dLrg2, dTwo, un_non, un_int, un_bl, un_str, un_lst, un_tup, un_obj, un_dct, un_scr, un_olst, un_oll, un_oobj, un_mv, un_m, un_p, pl_non, pl_int, pl_bl, pl_str, pl_lst, pl_tup, pl_obj, pl_dct, pl_scr, pl_m, pl_p, fzm_non, fzm_int, fzm_bl, fzm_lst, fzm_tup, fzm_obj, fzm_scr, fzm_olst, fzm_oll, fzm_oobj, fzm_m, frz_non, frz_int, frz_bl, frz_str, frz_lst, frz_tup, frz_obj, frz_dct, frz_scr, frz_olst, frz_oll, frz_m, fz_no, fz_tr, see_no, see_tr, asB_bl, asI_int, asgD_non, asgD_int, asgD_bl, asgD_lst, asgD_tup, asgD_obj, asgD_mv, asgD_m, it_lst, it_olst, it_scr, li_lst, li_olst, pit_lst, pit_scr, sz_lst, sz_olst, sz_oll, sz_scr, sz_tup, ad_int, ad_ll, ad_oo, ad_lo, ad_ol, mu_int, mu_l, mu_o, gI_int, gI0_int, gI2_int, ii_eqv, co_int, co_bl, co_non, co_row, co_rowO, co_nil, co_nilO, co_ps, co_p, co_p2, co_rows, ev_ll, ev_ol, ev_lo, ev_oo, ev_ln, ev_lno, ev_on, ev_ono, in_ps, in_row, gEq, gNe, gIn, gNotIn, g1, g2, gLen, gList, δof, List.getElem?_cons_zero, List.getElem?_cons_succ, List.getElem?_nil, List.set_cons_zero, List.set_cons_succ, List.map_cons, List.map_nil, List.length_cons, List.length_nil, List.replicate_succ, List.replicate_zero, List.cons_append, List.nil_append, Option.bind_some, Option.bind_none, List.all_cons, List.all_nil, List.append_nil, Nat.reduceAdd, Nat.reduceSub, true_and, and_true, Bool.and_true, Bool.true_and]
  have e : ((k : Int) + 1) = ((k + 1 : Nat) : Int) := by omega
  rw [e, cut_to (by rw [List.length_map]; omega), cut_from (by rw [List.length_map]; omega), ← List.map_take, ← List.map_drop, ← List.map_append, ← List.eraseIdx_eq_take_drop_succ]
  refine ⟨?_, h⟩
  rw [List.length_map, List.length_map, List.length_take, List.length_drop]
  omega
/-! ### the kinds of a row, rising -/
def ins (k : Int) : List Int → List Int
  | [] => [k]
  | x :: xs => if k < x then k :: x :: xs else if k = x then x :: xs else x :: ins k xs
def uni (xs : List Int) : List Int := xs.foldr ins []
theorem mem_ins {k j : Int} : ∀ {xs : List Int}, j ∈ ins k xs ↔ j = k ∨ j ∈ xs
  | [] => by simp [ins]
  | x :: xs => by
    unfold ins
    split
    · simp
    · split
      · rename_i h
        subst h
        simp
      · rw [List.mem_cons, List.mem_cons, mem_ins]
        constructor
        · rintro (h | h | h)
          · exact .inr (.inl h)
          · exact .inl h
          · exact .inr (.inr h)
        · rintro (h | h | h)
          · exact .inr (.inl h)
          · exact .inl h
          · exact .inr (.inr h)
theorem up_ins {k : Int} : ∀ {xs : List Int}, xs.Pairwise (· < ·) → (ins k xs).Pairwise (· < ·)
  | [], _ => by simp [ins]
  | x :: xs, h => by
    obtain ⟨h1, h2⟩ := List.pairwise_cons.mp h
    unfold ins
    split
    · rename_i hk
      refine List.pairwise_cons.mpr ⟨fun y hy => ?_, h⟩
      rcases List.mem_cons.mp hy with rfl | hy
      · exact hk
      · exact Int.lt_trans hk (h1 y hy)
    · split
      · exact h
      · refine List.pairwise_cons.mpr ⟨fun y hy => ?_, up_ins h2⟩
        rcases mem_ins.mp hy with rfl | hy
        · omega
        · exact h1 y hy
theorem mem_uni {j : Int} : ∀ {xs : List Int}, j ∈ uni xs ↔ j ∈ xs
  | [] => by simp [uni]
  | x :: xs => by
    show j ∈ ins x (uni xs) ↔ _
    rw [mem_ins, mem_uni, List.mem_cons]
theorem up_uni : ∀ {xs : List Int}, (uni xs).Pairwise (· < ·)
  | [] => by simp [uni]
  | x :: xs => up_ins (up_uni (xs := xs))
/-- of the same members, rising: the same -/
theorem up_eq : ∀ {xs ys : List Int}, xs.Pairwise (· < ·) → ys.Pairwise (· < ·) → (∀ k, k ∈ xs ↔ k ∈ ys) → xs = ys
  | [], [], _, _, _ => rfl
  | [], y :: ys, _, _, h => absurd ((h y).mpr List.mem_cons_self) List.not_mem_nil
  | x :: xs, [], _, _, h => absurd ((h x).mp List.mem_cons_self) List.not_mem_nil
  | x :: xs, y :: ys, hx, hy, h => by
    obtain ⟨x1, x2⟩ := List.pairwise_cons.mp hx
    obtain ⟨y1, y2⟩ := List.pairwise_cons.mp hy
    have e : x = y := by
      have a := (h x).mp List.mem_cons_self
      have b := (h y).mpr List.mem_cons_self
      rcases List.mem_cons.mp a with e | a
      · exact e
      · rcases List.mem_cons.mp b with e | b
        · exact e.symm
        · have := x1 y b
          have := y1 x a
          omega
    subst e
    congr 1
    refine up_eq x2 y2 fun k => ?_
    have z := h k
    rw [List.mem_cons, List.mem_cons] at z
    constructor
    · intro hk
      rcases z.mp (.inr hk) with e | e
      · have := x1 k hk
        omega
      · exact e
    · intro hk
      rcases z.mpr (.inr hk) with e | e
      · have := y1 k hk
        omega
      · exact e
def fst (m : Int → Int → Bool) (xs : List Int) : List Int := (uni xs).filter fun k => decide (0 ≤ pf m k xs 0)
def G_firsts_of (K : PySem.W.Frag) : GD := fun ds P => ∃ n ps xs, ds = [mK K n ps, rD xs] ∧ xs.length ≤ 1000 ∧ P (.mv (.olst ((fst (mnd ps) xs).map .int)))
/-! ### firsts_of -/
abbrev N_firsts_of : List Str := ["minds", "row", "kind"]
def T_firsts_of_c1 (K : PySem.W.Frag) : DE := (dVar 2)
def T_firsts_of_c1t (K : PySem.W.Frag) : DT := (dT (dOp gGe (dCall (G_place_first K) (dCons (dVar 0) (dCons (dVar 1) (dCons (dVar 2) dNil)))) (dC (.int 0))))
def T_firsts_of (K : PySem.W.Frag) : DS := (dRet (dLc 2 (dIl (dFz (dSset (dVar 1)))) (T_firsts_of_c1t K) (T_firsts_of_c1 K)))
theorem firsts_of_c {K : PySem.W.Frag} {n : Int} {ps : List (Int × Int)} {xs : List Int} {P : D → Prop} {e2 : DV} : ∀ (ks : List Int) (acc : List Int), acc.length + ks.length ≤ 1000 → P (.mv (.olst ((acc ++ ks.filter fun k => decide (0 ≤ pf (mnd ps) k xs 0)).map .int))) → compGo 2 (T_firsts_of_c1t K) (T_firsts_of_c1 K) P (ks.map .int) (acc.map .int) [.tr (mK K n ps), .tr (rD xs), e2]
  | [], acc, _, h => by
    rw [List.filter_nil, List.append_nil] at h
    exact h
  | k :: ks, acc, hl, h => by
    rw [List.length_cons] at hl
    refine compGo_op fun N hN => ?_
    simp only [T_firsts_of_c1t, T_firsts_of_c1, mK, rD, dSeq, dIfS, dT, dTn, dTa, dTo, dOp, dVar, dC, dFz_eq, dCB, dCons, dNil, dCall, dCallB, dMeth, dMethB, dSet, dApp, dExt, dRet, dRetM, dNx, dDrop, dNeg, dAnd, dOr, dNot, dIf, dCh, dCh3, dU, dTup, dLst, dFld, dIsi, dIl, dIe, dIr1, dIr2, dIv1, dgN, dgT, putAll, dFor, dPar2, dPar3, dSetT, dLc, dYes, dSl, dNo, dSome, dRev, dNev, dSset, dCount, dIndex, dLrg1, dLrg2, dTwo, un_non, un_int, un_bl, un_str, un_lst, un_tup, un_obj, un_dct, un_scr, un_olst, un_oll, un_oobj, un_mv, un_m, un_p, pl_non, pl_int, pl_bl, pl_str, pl_lst, pl_tup, pl_obj, pl_dct, pl_scr, pl_m, pl_p, fzm_non, fzm_int, fzm_bl, fzm_lst, fzm_tup, fzm_obj, fzm_scr, fzm_olst, fzm_oll, fzm_oobj, fzm_m, frz_non, frz_int, frz_bl, frz_str, frz_lst, frz_tup, frz_obj, frz_dct, frz_scr, frz_olst, frz_oll, frz_m, fz_no, fz_tr, see_no, see_tr, asB_bl, asI_int, asgD_non, asgD_int, asgD_bl, asgD_lst, asgD_tup, asgD_obj, asgD_mv, asgD_m, it_lst, it_olst, it_scr, li_lst, li_olst, pit_lst, pit_scr, sz_lst, sz_olst, sz_oll, sz_scr, sz_tup, ad_int, ad_ll, ad_oo, ad_lo, ad_ol, mu_int, mu_l, mu_o, gI_int, gI0_int, gI2_int, ii_eqv, co_int, co_bl, co_non, co_row, co_rowO, co_nil, co_nilO, co_ps, co_p, co_p2, co_rows, ev_ll, ev_ol, ev_lo, ev_oo, ev_ln, ev_lno, ev_on, ev_ono, in_ps, in_row, gEq, gNe, gIn, gNotIn, g1, g2, gLen, gList, δof, List.getElem?_cons_zero, List.getElem?_cons_succ, List.getElem?_nil, List.set_cons_zero, List.set_cons_succ, List.map_cons, List.map_nil, List.length_cons, List.length_nil, List.replicate_succ, List.replicate_zero, List.cons_append, List.nil_append, Option.bind_some, Option.bind_none, List.all_cons, List.all_nil, List.append_nil, Nat.reduceAdd, Nat.reduceSub, true_and, and_true, Bool.and_true, Bool.true_and]
    refine ⟨n, ps, xs, k, rfl, ?_⟩
    by_cases e : 0 ≤ pf (mnd ps) k xs 0
    · simp only [decide_eq_true e, dSeq, dIfS, dT, dTn, dTa, dTo, dOp, dVar, dC, dFz_eq, dCB, dCons, dNil, dCall, dCallB, dMeth, dMethB, dSet, dApp, dExt, dRet, dRetM, dNx, dDrop, dNeg, dAnd, dOr, dNot, dIf, dCh, dCh3, dU, dTup, dLst, dFld, dIsi, dIl, dIe, dIr1, dIr2, dIv1, dgN, dgT, putAll, dFor, dPar2, dPar3, dSetT, dLc, dYes, dSl, dNo, dSome, dRev, dNev, dSset, dCount, dIndex, dLrg1, dLrg2, dTwo, un_non, un_int, un_bl, un_str, un_lst, un_tup, un_obj, un_dct, un_scr, un_olst, un_oll, un_oobj, un_mv, un_m, un_p, pl_non, pl_int, pl_bl, pl_str, pl_lst, pl_tup, pl_obj, pl_dct, pl_scr, pl_m, pl_p, fzm_non, fzm_int, fzm_bl, fzm_lst, fzm_tup, fzm_obj, fzm_scr, fzm_olst, fzm_oll, fzm_oobj, fzm_m, frz_non, frz_int, frz_bl, frz_str, frz_lst, frz_tup, frz_obj, frz_dct, frz_scr, frz_olst, frz_oll, frz_m, fz_no, fz_tr, see_no, see_tr, asB_bl, asI_int, asgD_non, asgD_int, asgD_bl, asgD_lst, asgD_tup, asgD_obj, asgD_mv, asgD_m, it_lst, it_olst, it_scr, li_lst, li_olst, pit_lst, pit_scr, sz_lst, sz_olst, sz_oll, sz_scr, sz_tup, ad_int, ad_ll, ad_oo, ad_lo, ad_ol, mu_int, mu_l, mu_o, gI_int, gI0_int, gI2_int, ii_eqv, co_int, co_bl, co_non, co_row, co_rowO, co_nil, co_nilO, co_ps, co_p, co_p2, co_rows, ev_ll, ev_ol, ev_lo, ev_oo, ev_ln, ev_lno, ev_on, ev_ono, in_ps, in_row, gEq, gNe, gIn, gNotIn, g1, g2, gLen, gList, δof, List.getElem?_cons_zero, List.getElem?_cons_succ, List.getElem?_nil, List.set_cons_zero, List.set_cons_succ, List.map_cons, List.map_nil, List.length_cons, List.length_nil, List.replicate_succ, List.replicate_zero, List.cons_append, List.nil_append, Option.bind_some, Option.bind_none, List.all_cons, List.all_nil, List.append_nil, Nat.reduceAdd, Nat.reduceSub, true_and, and_true, Bool.and_true, Bool.true_and]
      rw [List.filter_cons_of_pos (by simpa using e)] at h
      refine ⟨by rw [List.length_map]; omega, ?_⟩
      have z := firsts_of_c (K := K) (n := n) (ps := ps) (xs := xs) (e2 := e2) (P := P) ks (acc ++ [k]) (by rw [List.length_append, List.length_cons, List.length_nil]; omega) (by rw [List.append_assoc]; exact h)
      rw [List.map_append] at z
      rw [hN]
      exact z
    · simp only [decide_eq_false e, dSeq, dIfS, dT, dTn, dTa, dTo, dOp, dVar, dC, dFz_eq, dCB, dCons, dNil, dCall, dCallB, dMeth, dMethB, dSet, dApp, dExt, dRet, dRetM, dNx, dDrop, dNeg, dAnd, dOr, dNot, dIf, dCh, dCh3, dU, dTup, dLst, dFld, dIsi, dIl, dIe, dIr1, dIr2, dIv1, dgN, dgT, putAll, dFor, dPar2, dPar3, dSetT, dLc, dYes, dSl, dNo, dSome, dRev, dNev, dSset, dCount, dIndex, dLrg1, dLrg2, dTwo, un_non, un_int, un_bl, un_str, un_lst, un_tup, un_obj, un_dct, un_scr, un_olst, un_oll, un_oobj, un_mv, un_m, un_p, pl_non, pl_int, pl_bl, pl_str, pl_lst, pl_tup, pl_obj, pl_dct, pl_scr, pl_m, pl_p, fzm_non, fzm_int, fzm_bl, fzm_lst, fzm_tup, fzm_obj, fzm_scr, fzm_olst, fzm_oll, fzm_oobj, fzm_m, frz_non, frz_int, frz_bl, frz_str, frz_lst, frz_tup, frz_obj, frz_dct, frz_scr, frz_olst, frz_oll, frz_m, fz_no, fz_tr, see_no, see_tr, asB_bl, asI_int, asgD_non, asgD_int, asgD_bl, asgD_lst, asgD_tup, asgD_obj, asgD_mv, asgD_m, it_lst, it_olst, it_scr, li_lst, li_olst, pit_lst, pit_scr, sz_lst, sz_olst, sz_oll, sz_scr, sz_tup, ad_int, ad_ll, ad_oo, ad_lo, ad_ol, mu_int, mu_l, mu_o, gI_int, gI0_int, gI2_int, ii_eqv, co_int, co_bl, co_non, co_row, co_rowO, co_nil, co_nilO, co_ps, co_p, co_p2, co_rows, ev_ll, ev_ol, ev_lo, ev_oo, ev_ln, ev_lno, ev_on, ev_ono, in_ps, in_row, gEq, gNe, gIn, gNotIn, g1, g2, gLen, gList, δof, List.getElem?_cons_zero, List.getElem?_cons_succ, List.getElem?_nil, List.set_cons_zero, List.set_cons_succ, List.map_cons, List.map_nil, List.length_cons, List.length_nil, List.replicate_succ, List.replicate_zero, List.cons_append, List.nil_append, Option.bind_some, Option.bind_none, List.all_cons, List.all_nil, List.append_nil, Nat.reduceAdd, Nat.reduceSub, true_and, and_true, Bool.and_true, Bool.true_and]
      rw [List.filter_cons_of_neg (by simpa using e)] at h
      rw [hN]
      exact firsts_of_c (K := K) (n := n) (ps := ps) (xs := xs) (e2 := e2) (P := P) ks acc (by omega) h
theorem uni_len : ∀ xs : List Int, (uni xs).length ≤ xs.length
  | [] => Nat.le_refl _
  | x :: xs => by
    have z : ∀ (k : Int) (ys : List Int), (ins k ys).length ≤ ys.length + 1 := fun k ys => by
      induction ys with
      | nil => exact Nat.le_refl _
      | cons y ys ih =>
        unfold ins
        split
        · exact Nat.le_refl _
        · split
          · exact Nat.le_succ _
          · exact Nat.succ_le_succ ih
    have := z x (uni xs)
    have := uni_len xs
    show (ins x (uni xs)).length ≤ xs.length + 1
    omega
theorem rd_firsts_of {K : PySem.W.Frag} : ∀ ds Q, G_firsts_of K ds Q → T_firsts_of K { nx := fun _ => Q .non, rt := Q } (δof N_firsts_of.length ds) := by
  rintro _ Q ⟨n, ps, xs, rfl, hl, h⟩
  simp only [T_firsts_of, mK, rD, dSeq, dIfS, dT, dTn, dTa, dTo, dOp, dVar, dC, dFz_eq, dCB, dCons, dNil, dCall, dCallB, dMeth, dMethB, dSet, dApp, dExt, dRet, dRetM, dNx, dDrop, dNeg, dAnd, dOr, dNot, dIf, dCh, dCh3, dU, dTup, dLst, dFld, dIsi, dIl, dIe, dIr1, dIr2, dIv1, dgN, dgT, putAll, dFor, dPar2, dPar3, dSetT, dLc, dYes, dSl, dNo, dSome, dRev, dNev, dSset, dCount, dIndex, dLrg1, dLrg2, dTwo, un_non, un_int, un_bl, un_str, un_lst, un_tup, un_obj, un_dct, un_scr, un_olst, un_oll, un_oobj, un_mv, un_m, un_p, pl_non, pl_int, pl_bl, pl_str, pl_lst, pl_tup, pl_obj, pl_dct, pl_scr, pl_m, pl_p, fzm_non, fzm_int, fzm_bl, fzm_lst, fzm_tup, fzm_obj, fzm_scr, fzm_olst, fzm_oll, fzm_oobj, fzm_m, frz_non, frz_int, frz_bl, frz_str, frz_lst, frz_tup, frz_obj, frz_dct, frz_scr, frz_olst, frz_oll, frz_m, fz_no, fz_tr, see_no, see_tr, asB_bl, asI_int, asgD_non, asgD_int, asgD_bl, asgD_lst, asgD_tup, asgD_obj, asgD_mv, asgD_m, it_lst, it_olst, it_scr, li_lst, li_olst, pit_lst, pit_scr, sz_lst, sz_olst, sz_oll, sz_scr, sz_tup, ad_int, ad_ll, ad_oo, ad_lo, ad_ol, mu_int, mu_l, mu_o, gI_int, gI0_int, gI2_int, ii_eqv, co_int, co_bl, co_non, co_row, co_rowO, co_nil, co_nilO, co_ps, co_p, co_p2, co_rows, ev_ll, ev_ol, ev_lo, ev_oo, ev_ln, ev_lno, ev_on, ev_ono, in_ps, in_row, gEq, gNe, gIn, gNotIn, g1, g2, gLen, gList, δof, List.getElem?_cons_zero, List.getElem?_cons_succ, List.getElem?_nil, List.set_cons_zero, List.set_cons_succ, List.map_cons, List.map_nil, List.length_cons, List.length_nil, List.replicate_succ, List.replicate_zero, List.cons_append, List.nil_append, Option.bind_some, Option.bind_none, List.all_cons, List.all_nil, List.append_nil, Nat.reduceAdd, Nat.reduceSub, true_and, and_true, Bool.and_true, Bool.true_and, ints_lst]
  refine ⟨hl, fun ys up mem => ?_⟩
  have e : ys = uni xs := up_eq up up_uni fun k => by rw [mem, mem_uni]
  subst e
  exact firsts_of_c (K := K) (n := n) (ps := ps) (xs := xs) (uni xs) [] (by have := uni_len xs; rw [List.length_nil]; omega) h
def G_firsts (K : PySem.W.Frag) : GD := fun ds P => ∃ n ps xs, ds = [mK K n ps, rD xs] ∧ Kinds n xs ∧ xs.length ≤ 1000 ∧ P (.mv (.olst ((fst (mnd ps) xs).map .int)))
/-! ### firsts -/
abbrev N_firsts : List Str := ["minds", "row"]
def T_firsts (K : PySem.W.Frag) : DS := (dSeq (dDrop (dCall (G_check_row K) (dCons (dVar 0) (dCons (dVar 1) dNil))))
  (dRet (dCall (G_firsts_of K) (dCons (dVar 0) (dCons (dVar 1) dNil)))))
theorem rd_firsts {K : PySem.W.Frag} : ∀ ds Q, G_firsts K ds Q → T_firsts K { nx := fun _ => Q .non, rt := Q } (δof N_firsts.length ds) := by
  rintro _ Q ⟨n, ps, xs, rfl, hx, hl, h⟩
  simp only [T_firsts, mK, rD, dSeq, dIfS, dT, dTn, dTa, dTo, dOp, dVar, dC, dFz_eq, dCB, dCons, dNil, dCall, dCallB, dMeth, dMethB, dSet, dApp, dExt, dRet, dRetM, dNx, dDrop, dNeg, dAnd, dOr, dNot, dIf, dCh, dCh3, dU, dTup, dLst, dFld, dIsi, dIl, dIe, dIr1, dIr2, dIv1, dgN, dgT, putAll, dFor, dPar2, dPar3, dSetT, dLc, dYes, dSl, dNo, dSome, dRev, dNev, dSset, dCount, dIndex, dLrg1, dLrg2, dTwo, un_non, un_int, un_bl, un_str, un_lst, un_tup, un_obj, un_dct, un_scr, un_olst, un_oll, un_oobj, un_mv, un_m, un_p, pl_non, pl_int, pl_bl, pl_str, pl_lst, pl_tup, pl_obj, pl_dct, pl_scr, pl_m, pl_p, fzm_non, fzm_int, fzm_bl, fzm_lst, fzm_tup, fzm_obj, fzm_scr, fzm_olst, fzm_oll, fzm_oobj, fzm_m, frz_non, frz_int, frz_bl, frz_str, frz_lst, frz_tup, frz_obj, frz_dct, frz_scr, frz_olst, frz_oll, frz_m, fz_no, fz_tr, see_no, see_tr, asB_bl, asI_int, asgD_non, asgD_int, asgD_bl, asgD_lst, asgD_tup, asgD_obj, asgD_mv, asgD_m, it_lst, it_olst, it_scr, li_lst, li_olst, pit_lst, pit_scr, sz_lst, sz_olst, sz_oll, sz_scr, sz_tup, ad_int, ad_ll, ad_oo, ad_lo, ad_ol, mu_int, mu_l, mu_o, gI_int, gI0_int, gI2_int, ii_eqv, co_int, co_bl, co_non, co_row, co_rowO, co_nil, co_nilO, co_ps, co_p, co_p2, co_rows, ev_ll, ev_ol, ev_lo, ev_oo, ev_ln, ev_lno, ev_on, ev_ono, in_ps, in_row, gEq, gNe, gIn, gNotIn, g1, g2, gLen, gList, δof, List.getElem?_cons_zero, List.getElem?_cons_succ, List.getElem?_nil, List.set_cons_zero, List.set_cons_succ, List.map_cons, List.map_nil, List.length_cons, List.length_nil, List.replicate_succ, List.replicate_zero, List.cons_append, List.nil_append, Option.bind_some, Option.bind_none, List.all_cons, List.all_nil, List.append_nil, Nat.reduceAdd, Nat.reduceSub, true_and, and_true, Bool.and_true, Bool.true_and]
  exact ⟨n, ps, xs, rfl, hx, hl, n, ps, xs, rfl, hl, h⟩
/-! ### Minds's way in -/
abbrev N_Minds_init : List Str := ["self", "kinds", "pairs", "pair"]
def T_Minds_init_0 (K : PySem.W.Frag) : DT := (dTo (dTn (dT (dCall (G_is_number K) (dCons (dVar 1) dNil)))) (dTo (dT (dOp gLt (dVar 1) (dC (.int 1)))) (dTn (dT (dIsi K (.type "list") (dVar 2))))))
theorem rd_Minds_init_0 {K : PySem.W.Frag} {n : Int} {ps : List (Int × Int)} (hn : 1 ≤ n) : T_Minds_init_0 K (DV.no :: δof (N_Minds_init.length - 1) [.int n, .lst (ps.map pD)]) fun b => b = false := by
  simp only [T_Minds_init_0, dSeq, dIfS, dT, dTn, dTa, dTo, dOp, dVar, dC, dFz_eq, dCB, dCons, dNil, dCall, dCallB, dMeth, dMethB, dSet, dApp, dExt, dRet, dRetM, dNx, dDrop, dNeg, dAnd, dOr, dNot, dIf, dCh, dCh3, dU, dTup, dLst, dFld, dIsi, dIl, dIe, dIr1, dIr2, dIv1, dgN, dgT, putAll, dFor, dPar2, dPar3, dSetT, dLc, dYes, dSl, dNo, dSome, dRev, dNev, dSset, dCount, dIndex, dLrg1, dLrg2, dTwo, un_non, un_int, un_bl, un_str, un_lst, un_tup, un_obj, un_dct, un_scr, un_olst, un_oll, un_oobj, un_mv, un_m, un_p, pl_non, pl_int, pl_bl, pl_str, pl_lst, pl_tup, pl_obj, pl_dct, pl_scr, pl_m, pl_p, fzm_non, fzm_int, fzm_bl, fzm_lst, fzm_tup, fzm_obj, fzm_scr, fzm_olst, fzm_oll, fzm_oobj, fzm_m, frz_non, frz_int, frz_bl, frz_str, frz_lst, frz_tup, frz_obj, frz_dct, frz_scr, frz_olst, frz_oll, frz_m, fz_no, fz_tr, see_no, see_tr, asB_bl, asI_int, asgD_non, asgD_int, asgD_bl, asgD_lst, asgD_tup, asgD_obj, asgD_mv, asgD_m, it_lst, it_olst, it_scr, li_lst, li_olst, pit_lst, pit_scr, sz_lst, sz_olst, sz_oll, sz_scr, sz_tup, ad_int, ad_ll, ad_oo, ad_lo, ad_ol, mu_int, mu_l, mu_o, gI_int, gI0_int, gI2_int, ii_eqv, co_int, co_bl, co_non, co_row, co_rowO, co_nil, co_nilO, co_ps, co_p, co_p2, co_rows, ev_ll, ev_ol, ev_lo, ev_oo, ev_ln, ev_lno, ev_on, ev_ono, in_ps, in_row, gEq, gNe, gIn, gNotIn, g1, g2, gLen, gList, δof, List.getElem?_cons_zero, List.getElem?_cons_succ, List.getElem?_nil, List.set_cons_zero, List.set_cons_succ, List.map_cons, List.map_nil, List.length_cons, List.length_nil, List.replicate_succ, List.replicate_zero, List.cons_append, List.nil_append, Option.bind_some, Option.bind_none, List.all_cons, List.all_nil, List.append_nil, Nat.reduceAdd, Nat.reduceSub, true_and, and_true, Bool.and_true, Bool.true_and]
  refine ⟨n, rfl, ?_⟩
  simp only [dSeq, dIfS, dT, dTn, dTa, dTo, dOp, dVar, dC, dFz_eq, dCB, dCons, dNil, dCall, dCallB, dMeth, dMethB, dSet, dApp, dExt, dRet, dRetM, dNx, dDrop, dNeg, dAnd, dOr, dNot, dIf, dCh, dCh3, dU, dTup, dLst, dFld, dIsi, dIl, dIe, dIr1, dIr2, dIv1, dgN, dgT, putAll, dFor, dPar2, dPar3, dSetT, dLc, dYes, dSl, dNo, dSome, dRev, dNev, dSset, dCount, dIndex, dLrg1, dLrg2, dTwo, un_non, un_int, un_bl, un_str, un_lst, un_tup, un_obj, un_dct, un_scr, un_olst, un_oll, un_oobj, un_mv, un_m, un_p, pl_non, pl_int, pl_bl, pl_str, pl_lst, pl_tup, pl_obj, pl_dct, pl_scr, pl_m, pl_p, fzm_non, fzm_int, fzm_bl, fzm_lst, fzm_tup, fzm_obj, fzm_scr, fzm_olst, fzm_oll, fzm_oobj, fzm_m, frz_non, frz_int, frz_bl, frz_str, frz_lst, frz_tup, frz_obj, frz_dct, frz_scr, frz_olst, frz_oll, frz_m, fz_no, fz_tr, see_no, see_tr, asB_bl, asI_int, asgD_non, asgD_int, asgD_bl, asgD_lst, asgD_tup, asgD_obj, asgD_mv, asgD_m, it_lst, it_olst, it_scr, li_lst, li_olst, pit_lst, pit_scr, sz_lst, sz_olst, sz_oll, sz_scr, sz_tup, ad_int, ad_ll, ad_oo, ad_lo, ad_ol, mu_int, mu_l, mu_o, gI_int, gI0_int, gI2_int, ii_eqv, co_int, co_bl, co_non, co_row, co_rowO, co_nil, co_nilO, co_ps, co_p, co_p2, co_rows, ev_ll, ev_ol, ev_lo, ev_oo, ev_ln, ev_lno, ev_on, ev_ono, in_ps, in_row, gEq, gNe, gIn, gNotIn, g1, g2, gLen, gList, δof, List.getElem?_cons_zero, List.getElem?_cons_succ, List.getElem?_nil, List.set_cons_zero, List.set_cons_succ, List.map_cons, List.map_nil, List.length_cons, List.length_nil, List.replicate_succ, List.replicate_zero, List.cons_append, List.nil_append, Option.bind_some, Option.bind_none, List.all_cons, List.all_nil, List.append_nil, Nat.reduceAdd, Nat.reduceSub, true_and, and_true, Bool.and_true, Bool.true_and, Bool.not_true]
  rw [decide_eq_false (by omega)]
  exact ⟨true, rfl, rfl⟩
def T_Minds_init_c1 (K : PySem.W.Frag) : DE := (dFz (dCall (G_is_pair K) (dCons (dVar 3) (dCons (dVar 1) dNil))))
def T_Minds_init_1 (K : PySem.W.Frag) : DT := (dTo (dTn (dT (dCB gAll (dCons (dLc 3 (dIl (dVar 2)) dYes (T_Minds_init_c1 K)) dNil)))) (dT (dOp gLt (dLset (dVar 2)) (dCB gLen (dCons (dVar 2) dNil)))))
theorem minds_init_c {K : PySem.W.Frag} {n : Int} {row : D} {P : D → Prop} {e0 e3 : DV} : ∀ (ps : List (Int × Int)) (acc : List D), (∀ q ∈ ps, 0 ≤ q.1 ∧ q.1 < q.2 ∧ q.2 < n) → acc.length + ps.length ≤ 1000 → P (.mv (.olst (acc ++ ps.map fun _ => .bl true))) → compGo 3 dYes (T_Minds_init_c1 K) P (ps.map pD) acc [e0, .tr (.int n), .tr row, e3]
  | [], acc, _, _, h => by
    rw [List.map_nil, List.append_nil] at h
    exact h
  | q :: ps, acc, hq, hl, h => by
    rw [List.length_cons] at hl
    refine compGo_op fun N hN => ?_
    simp only [T_Minds_init_c1, dSeq, dIfS, dT, dTn, dTa, dTo, dOp, dVar, dC, dFz_eq, dCB, dCons, dNil, dCall, dCallB, dMeth, dMethB, dSet, dApp, dExt, dRet, dRetM, dNx, dDrop, dNeg, dAnd, dOr, dNot, dIf, dCh, dCh3, dU, dTup, dLst, dFld, dIsi, dIl, dIe, dIr1, dIr2, dIv1, dgN, dgT, putAll, dFor, dPar2, dPar3, dSetT, dLc, dYes, dSl, dNo, dSome, dRev, dNev, dSset, dCount, dIndex, dLrg1, dLrg2, dTwo, un_non, un_int, un_bl, un_str, un_lst, un_tup, un_obj, un_dct, un_scr, un_olst, un_oll, un_oobj, un_mv, un_m, un_p, pl_non, pl_int, pl_bl, pl_str, pl_lst, pl_tup, pl_obj, pl_dct, pl_scr, pl_m, pl_p, fzm_non, fzm_int, fzm_bl, fzm_lst, fzm_tup, fzm_obj, fzm_scr, fzm_olst, fzm_oll, fzm_oobj, fzm_m, frz_non, frz_int, frz_bl, frz_str, frz_lst, frz_tup, frz_obj, frz_dct, frz_scr, frz_olst, frz_oll, frz_m, fz_no, fz_tr, see_no, see_tr, asB_bl, asI_int, asgD_non, asgD_int, asgD_bl, asgD_lst, asgD_tup, asgD_obj, asgD_mv, asgD_m, it_lst, it_olst, it_scr, li_lst, li_olst, pit_lst, pit_scr, sz_lst, sz_olst, sz_oll, sz_scr, sz_tup, ad_int, ad_ll, ad_oo, ad_lo, ad_ol, mu_int, mu_l, mu_o, gI_int, gI0_int, gI2_int, ii_eqv, co_int, co_bl, co_non, co_row, co_rowO, co_nil, co_nilO, co_ps, co_p, co_p2, co_rows, ev_ll, ev_ol, ev_lo, ev_oo, ev_ln, ev_lno, ev_on, ev_ono, in_ps, in_row, gEq, gNe, gIn, gNotIn, g1, g2, gLen, gList, δof, List.getElem?_cons_zero, List.getElem?_cons_succ, List.getElem?_nil, List.set_cons_zero, List.set_cons_succ, List.map_cons, List.map_nil, List.length_cons, List.length_nil, List.replicate_succ, List.replicate_zero, List.cons_append, List.nil_append, Option.bind_some, Option.bind_none, List.all_cons, List.all_nil, List.append_nil, Nat.reduceAdd, Nat.reduceSub, true_and, and_true, Bool.and_true, Bool.true_and]
    refine ⟨q, n, rfl, hq q List.mem_cons_self, ?_⟩
    simp only [dSeq, dIfS, dT, dTn, dTa, dTo, dOp, dVar, dC, dFz_eq, dCB, dCons, dNil, dCall, dCallB, dMeth, dMethB, dSet, dApp, dExt, dRet, dRetM, dNx, dDrop, dNeg, dAnd, dOr, dNot, dIf, dCh, dCh3, dU, dTup, dLst, dFld, dIsi, dIl, dIe, dIr1, dIr2, dIv1, dgN, dgT, putAll, dFor, dPar2, dPar3, dSetT, dLc, dYes, dSl, dNo, dSome, dRev, dNev, dSset, dCount, dIndex, dLrg1, dLrg2, dTwo, un_non, un_int, un_bl, un_str, un_lst, un_tup, un_obj, un_dct, un_scr, un_olst, un_oll, un_oobj, un_mv, un_m, un_p, pl_non, pl_int, pl_bl, pl_str, pl_lst, pl_tup, pl_obj, pl_dct, pl_scr, pl_m, pl_p, fzm_non, fzm_int, fzm_bl, fzm_lst, fzm_tup, fzm_obj, fzm_scr, fzm_olst, fzm_oll, fzm_oobj, fzm_m, frz_non, frz_int, frz_bl, frz_str, frz_lst, frz_tup, frz_obj, frz_dct, frz_scr, frz_olst, frz_oll, frz_m, fz_no, fz_tr, see_no, see_tr, asB_bl, asI_int, asgD_non, asgD_int, asgD_bl, asgD_lst, asgD_tup, asgD_obj, asgD_mv, asgD_m, it_lst, it_olst, it_scr, li_lst, li_olst, pit_lst, pit_scr, sz_lst, sz_olst, sz_oll, sz_scr, sz_tup, ad_int, ad_ll, ad_oo, ad_lo, ad_ol, mu_int, mu_l, mu_o, gI_int, gI0_int, gI2_int, ii_eqv, co_int, co_bl, co_non, co_row, co_rowO, co_nil, co_nilO, co_ps, co_p, co_p2, co_rows, ev_ll, ev_ol, ev_lo, ev_oo, ev_ln, ev_lno, ev_on, ev_ono, in_ps, in_row, gEq, gNe, gIn, gNotIn, g1, g2, gLen, gList, δof, List.getElem?_cons_zero, List.getElem?_cons_succ, List.getElem?_nil, List.set_cons_zero, List.set_cons_succ, List.map_cons, List.map_nil, List.length_cons, List.length_nil, List.replicate_succ, List.replicate_zero, List.cons_append, List.nil_append, Option.bind_some, Option.bind_none, List.all_cons, List.all_nil, List.append_nil, Nat.reduceAdd, Nat.reduceSub, true_and, and_true, Bool.and_true, Bool.true_and]
    refine ⟨by omega, ?_⟩
    rw [hN]
    refine minds_init_c (K := K) ps _ (fun y hy => hq y (List.mem_cons_of_mem _ hy)) (by rw [List.length_append, List.length_cons, List.length_nil]; omega) ?_
    rw [List.append_assoc]
    exact h
theorem rd_Minds_init_1 {K : PySem.W.Frag} {n : Int} {ps : List (Int × Int)} (hp : PairsOk n ps) : T_Minds_init_1 K (DV.no :: δof (N_Minds_init.length - 1) [.int n, .lst (ps.map pD)]) fun b => b = false := by
  simp only [T_Minds_init_1, dSeq, dIfS, dT, dTn, dTa, dTo, dOp, dVar, dC, dFz_eq, dCB, dCons, dNil, dCall, dCallB, dMeth, dMethB, dSet, dApp, dExt, dRet, dRetM, dNx, dDrop, dNeg, dAnd, dOr, dNot, dIf, dCh, dCh3, dU, dTup, dLst, dFld, dIsi, dIl, dIe, dIr1, dIr2, dIv1, dgN, dgT, putAll, dFor, dPar2, dPar3, dSetT, dLc, dYes, dSl, dNo, dSome, dRev, dNev, dSset, dCount, dIndex, dLrg1, dLrg2, dTwo, un_non, un_int, un_bl, un_str, un_lst, un_tup, un_obj, un_dct, un_scr, un_olst, un_oll, un_oobj, un_mv, un_m, un_p, pl_non, pl_int, pl_bl, pl_str, pl_lst, pl_tup, pl_obj, pl_dct, pl_scr, pl_m, pl_p, fzm_non, fzm_int, fzm_bl, fzm_lst, fzm_tup, fzm_obj, fzm_scr, fzm_olst, fzm_oll, fzm_oobj, fzm_m, frz_non, frz_int, frz_bl, frz_str, frz_lst, frz_tup, frz_obj, frz_dct, frz_scr, frz_olst, frz_oll, frz_m, fz_no, fz_tr, see_no, see_tr, asB_bl, asI_int, asgD_non, asgD_int, asgD_bl, asgD_lst, asgD_tup, asgD_obj, asgD_mv, asgD_m, it_lst, it_olst, it_scr, li_lst, li_olst, pit_lst, pit_scr, sz_lst, sz_olst, sz_oll, sz_scr, sz_tup, ad_int, ad_ll, ad_oo, ad_lo, ad_ol, mu_int, mu_l, mu_o, gI_int, gI0_int, gI2_int, ii_eqv, co_int, co_bl, co_non, co_row, co_rowO, co_nil, co_nilO, co_ps, co_p, co_p2, co_rows, ev_ll, ev_ol, ev_lo, ev_oo, ev_ln, ev_lno, ev_on, ev_ono, in_ps, in_row, gEq, gNe, gIn, gNotIn, g1, g2, gLen, gList, δof, List.getElem?_cons_zero, List.getElem?_cons_succ, List.getElem?_nil, List.set_cons_zero, List.set_cons_succ, List.map_cons, List.map_nil, List.length_cons, List.length_nil, List.replicate_succ, List.replicate_zero, List.cons_append, List.nil_append, Option.bind_some, Option.bind_none, List.all_cons, List.all_nil, List.append_nil, Nat.reduceAdd, Nat.reduceSub, true_and, and_true, Bool.and_true, Bool.true_and]
  refine minds_init_c (K := K) ps [] hp.2.2 (by have := hp.2.1; simp; omega) ?_
  simp only [dSeq, dIfS, dT, dTn, dTa, dTo, dOp, dVar, dC, dFz_eq, dCB, dCons, dNil, dCall, dCallB, dMeth, dMethB, dSet, dApp, dExt, dRet, dRetM, dNx, dDrop, dNeg, dAnd, dOr, dNot, dIf, dCh, dCh3, dU, dTup, dLst, dFld, dIsi, dIl, dIe, dIr1, dIr2, dIv1, dgN, dgT, putAll, dFor, dPar2, dPar3, dSetT, dLc, dYes, dSl, dNo, dSome, dRev, dNev, dSset, dCount, dIndex, dLrg1, dLrg2, dTwo, un_non, un_int, un_bl, un_str, un_lst, un_tup, un_obj, un_dct, un_scr, un_olst, un_oll, un_oobj, un_mv, un_m, un_p, pl_non, pl_int, pl_bl, pl_str, pl_lst, pl_tup, pl_obj, pl_dct, pl_scr, pl_m, pl_p, fzm_non, fzm_int, fzm_bl, fzm_lst, fzm_tup, fzm_obj, fzm_scr, fzm_olst, fzm_oll, fzm_oobj, fzm_m, frz_non, frz_int, frz_bl, frz_str, frz_lst, frz_tup, frz_obj, frz_dct, frz_scr, frz_olst, frz_oll, frz_m, fz_no, fz_tr, see_no, see_tr, asB_bl, asI_int, asgD_non, asgD_int, asgD_bl, asgD_lst, asgD_tup, asgD_obj, asgD_mv, asgD_m, it_lst, it_olst, it_scr, li_lst, li_olst, pit_lst, pit_scr, sz_lst, sz_olst, sz_oll, sz_scr, sz_tup, ad_int, ad_ll, ad_oo, ad_lo, ad_ol, mu_int, mu_l, mu_o, gI_int, gI0_int, gI2_int, ii_eqv, co_int, co_bl, co_non, co_row, co_rowO, co_nil, co_nilO, co_ps, co_p, co_p2, co_rows, ev_ll, ev_ol, ev_lo, ev_oo, ev_ln, ev_lno, ev_on, ev_ono, in_ps, in_row, gEq, gNe, gIn, gNotIn, g1, g2, gLen, gList, δof, List.getElem?_cons_zero, List.getElem?_cons_succ, List.getElem?_nil, List.set_cons_zero, List.set_cons_succ, List.map_cons, List.map_nil, List.length_cons, List.length_nil, List.replicate_succ, List.replicate_zero, List.cons_append, List.nil_append, Option.bind_some, Option.bind_none, List.all_cons, List.all_nil, List.append_nil, Nat.reduceAdd, Nat.reduceSub, true_and, and_true, Bool.and_true, Bool.true_and]
  refine ga_map ?_
  have z : (ps.all fun _ => true) = true := by simp
  rw [z]
  simp only [dSeq, dIfS, dT, dTn, dTa, dTo, dOp, dVar, dC, dFz_eq, dCB, dCons, dNil, dCall, dCallB, dMeth, dMethB, dSet, dApp, dExt, dRet, dRetM, dNx, dDrop, dNeg, dAnd, dOr, dNot, dIf, dCh, dCh3, dU, dTup, dLst, dFld, dIsi, dIl, dIe, dIr1, dIr2, dIv1, dgN, dgT, putAll, dFor, dPar2, dPar3, dSetT, dLc, dYes, dSl, dNo, dSome, dRev, dNev, dSset, dCount, dIndex, dLrg1, dLrg2, dTwo, un_non, un_int, un_bl, un_str, un_lst, un_tup, un_obj, un_dct, un_scr, un_olst, un_oll, un_oobj, un_mv, un_m, un_p, pl_non, pl_int, pl_bl, pl_str, pl_lst, pl_tup, pl_obj, pl_dct, pl_scr, pl_m, pl_p, fzm_non, fzm_int, fzm_bl, fzm_lst, fzm_tup, fzm_obj, fzm_scr, fzm_olst, fzm_oll, fzm_oobj, fzm_m, frz_non, frz_int, frz_bl, frz_str, frz_lst, frz_tup, frz_obj, frz_dct, frz_scr, frz_olst, frz_oll, frz_m, fz_no, fz_tr, see_no, see_tr, asB_bl, asI_int, asgD_non, asgD_int, asgD_bl, asgD_lst, asgD_tup, asgD_obj, asgD_mv, asgD_m, it_lst, it_olst, it_scr, li_lst, li_olst, pit_lst, pit_scr, sz_lst, sz_olst, sz_oll, sz_scr, sz_tup, ad_int, ad_ll, ad_oo, ad_lo, ad_ol, mu_int, mu_l, mu_o, gI_int, gI0_int, gI2_int, ii_eqv, co_int, co_bl, co_non, co_row, co_rowO, co_nil, co_nilO, co_ps, co_p, co_p2, co_rows, ev_ll, ev_ol, ev_lo, ev_oo, ev_ln, ev_lno, ev_on, ev_ono, in_ps, in_row, gEq, gNe, gIn, gNotIn, g1, g2, gLen, gList, δof, List.getElem?_cons_zero, List.getElem?_cons_succ, List.getElem?_nil, List.set_cons_zero, List.set_cons_succ, List.map_cons, List.map_nil, List.length_cons, List.length_nil, List.replicate_succ, List.replicate_zero, List.cons_append, List.nil_append, Option.bind_some, Option.bind_none, List.all_cons, List.all_nil, List.append_nil, Nat.reduceAdd, Nat.reduceSub, true_and, and_true, Bool.and_true, Bool.true_and, dLset, Bool.not_true]
  refine ⟨ps, rfl, hp.2.1, hp.1, ?_⟩
  simp only [dSeq, dIfS, dT, dTn, dTa, dTo, dOp, dVar, dC, dFz_eq, dCB, dCons, dNil, dCall, dCallB, dMeth, dMethB, dSet, dApp, dExt, dRet, dRetM, dNx, dDrop, dNeg, dAnd, dOr, dNot, dIf, dCh, dCh3, dU, dTup, dLst, dFld, dIsi, dIl, dIe, dIr1, dIr2, dIv1, dgN, dgT, putAll, dFor, dPar2, dPar3, dSetT, dLc, dYes, dSl, dNo, dSome, dRev, dNev, dSset, dCount, dIndex, dLrg1, dLrg2, dTwo, un_non, un_int, un_bl, un_str, un_lst, un_tup, un_obj, un_dct, un_scr, un_olst, un_oll, un_oobj, un_mv, un_m, un_p, pl_non, pl_int, pl_bl, pl_str, pl_lst, pl_tup, pl_obj, pl_dct, pl_scr, pl_m, pl_p, fzm_non, fzm_int, fzm_bl, fzm_lst, fzm_tup, fzm_obj, fzm_scr, fzm_olst, fzm_oll, fzm_oobj, fzm_m, frz_non, frz_int, frz_bl, frz_str, frz_lst, frz_tup, frz_obj, frz_dct, frz_scr, frz_olst, frz_oll, frz_m, fz_no, fz_tr, see_no, see_tr, asB_bl, asI_int, asgD_non, asgD_int, asgD_bl, asgD_lst, asgD_tup, asgD_obj, asgD_mv, asgD_m, it_lst, it_olst, it_scr, li_lst, li_olst, pit_lst, pit_scr, sz_lst, sz_olst, sz_oll, sz_scr, sz_tup, ad_int, ad_ll, ad_oo, ad_lo, ad_ol, mu_int, mu_l, mu_o, gI_int, gI0_int, gI2_int, ii_eqv, co_int, co_bl, co_non, co_row, co_rowO, co_nil, co_nilO, co_ps, co_p, co_p2, co_rows, ev_ll, ev_ol, ev_lo, ev_oo, ev_ln, ev_lno, ev_on, ev_ono, in_ps, in_row, gEq, gNe, gIn, gNotIn, g1, g2, gLen, gList, δof, List.getElem?_cons_zero, List.getElem?_cons_succ, List.getElem?_nil, List.set_cons_zero, List.set_cons_succ, List.map_cons, List.map_nil, List.length_cons, List.length_nil, List.replicate_succ, List.replicate_zero, List.cons_append, List.nil_append, Option.bind_some, Option.bind_none, List.all_cons, List.all_nil, List.append_nil, Nat.reduceAdd, Nat.reduceSub, true_and, and_true, Bool.and_true, Bool.true_and, List.length_map]
  exact decide_eq_false (by omega)
def T_Minds_init_2 (K : PySem.W.Frag) : DE := (dVar 1)
theorem rd_Minds_init_2 {K : PySem.W.Frag} {n : Int} {ps : List (Int × Int)} : T_Minds_init_2 K (DV.no :: δof (N_Minds_init.length - 1) [.int n, .lst (ps.map pD)]) fun d => fldD d fun d => d = .int n := by
  simp only [T_Minds_init_2, dSeq, dIfS, dT, dTn, dTa, dTo, dOp, dVar, dC, dFz_eq, dCB, dCons, dNil, dCall, dCallB, dMeth, dMethB, dSet, dApp, dExt, dRet, dRetM, dNx, dDrop, dNeg, dAnd, dOr, dNot, dIf, dCh, dCh3, dU, dTup, dLst, dFld, dIsi, dIl, dIe, dIr1, dIr2, dIv1, dgN, dgT, putAll, dFor, dPar2, dPar3, dSetT, dLc, dYes, dSl, dNo, dSome, dRev, dNev, dSset, dCount, dIndex, dLrg1, dLrg2, dTwo, un_non, un_int, un_bl, un_str, un_lst, un_tup, un_obj, un_dct, un_scr, un_olst, un_oll, un_oobj, un_mv, un_m, un_p, pl_non, pl_int, pl_bl, pl_str, pl_lst, pl_tup, pl_obj, pl_dct, pl_scr, pl_m, pl_p, fzm_non, fzm_int, fzm_bl, fzm_lst, fzm_tup, fzm_obj, fzm_scr, fzm_olst, fzm_oll, fzm_oobj, fzm_m, frz_non, frz_int, frz_bl, frz_str, frz_lst, frz_tup, frz_obj, frz_dct, frz_scr, frz_olst, frz_oll, frz_m, fz_no, fz_tr, see_no, see_tr, asB_bl, asI_int, asgD_non, asgD_int, asgD_bl, asgD_lst, asgD_tup, asgD_obj, asgD_mv, asgD_m, it_lst, it_olst, it_scr, li_lst, li_olst, pit_lst, pit_scr, sz_lst, sz_olst, sz_oll, sz_scr, sz_tup, ad_int, ad_ll, ad_oo, ad_lo, ad_ol, mu_int, mu_l, mu_o, gI_int, gI0_int, gI2_int, ii_eqv, co_int, co_bl, co_non, co_row, co_rowO, co_nil, co_nilO, co_ps, co_p, co_p2, co_rows, ev_ll, ev_ol, ev_lo, ev_oo, ev_ln, ev_lno, ev_on, ev_ono, in_ps, in_row, gEq, gNe, gIn, gNotIn, g1, g2, gLen, gList, δof, List.getElem?_cons_zero, List.getElem?_cons_succ, List.getElem?_nil, List.set_cons_zero, List.set_cons_succ, List.map_cons, List.map_nil, List.length_cons, List.length_nil, List.replicate_succ, List.replicate_zero, List.cons_append, List.nil_append, Option.bind_some, Option.bind_none, List.all_cons, List.all_nil, List.append_nil, Nat.reduceAdd, Nat.reduceSub, true_and, and_true, Bool.and_true, Bool.true_and]
  exact ⟨rfl, rfl⟩
def T_Minds_init_3 (K : PySem.W.Frag) : DE := (dCB gList (dCons (dVar 2) dNil))
theorem rd_Minds_init_3 {K : PySem.W.Frag} {n : Int} {ps : List (Int × Int)} : T_Minds_init_3 K (DV.no :: δof (N_Minds_init.length - 1) [.int n, .lst (ps.map pD)]) fun d => fldD d fun d => d = .olst (ps.map pD) := by
  simp only [T_Minds_init_3, dSeq, dIfS, dT, dTn, dTa, dTo, dOp, dVar, dC, dFz_eq, dCB, dCons, dNil, dCall, dCallB, dMeth, dMethB, dSet, dApp, dExt, dRet, dRetM, dNx, dDrop, dNeg, dAnd, dOr, dNot, dIf, dCh, dCh3, dU, dTup, dLst, dFld, dIsi, dIl, dIe, dIr1, dIr2, dIv1, dgN, dgT, putAll, dFor, dPar2, dPar3, dSetT, dLc, dYes, dSl, dNo, dSome, dRev, dNev, dSset, dCount, dIndex, dLrg1, dLrg2, dTwo, un_non, un_int, un_bl, un_str, un_lst, un_tup, un_obj, un_dct, un_scr, un_olst, un_oll, un_oobj, un_mv, un_m, un_p, pl_non, pl_int, pl_bl, pl_str, pl_lst, pl_tup, pl_obj, pl_dct, pl_scr, pl_m, pl_p, fzm_non, fzm_int, fzm_bl, fzm_lst, fzm_tup, fzm_obj, fzm_scr, fzm_olst, fzm_oll, fzm_oobj, fzm_m, frz_non, frz_int, frz_bl, frz_str, frz_lst, frz_tup, frz_obj, frz_dct, frz_scr, frz_olst, frz_oll, frz_m, fz_no, fz_tr, see_no, see_tr, asB_bl, asI_int, asgD_non, asgD_int, asgD_bl, asgD_lst, asgD_tup, asgD_obj, asgD_mv, asgD_m, it_lst, it_olst, it_scr, li_lst, li_olst, pit_lst, pit_scr, sz_lst, sz_olst, sz_oll, sz_scr, sz_tup, ad_int, ad_ll, ad_oo, ad_lo, ad_ol, mu_int, mu_l, mu_o, gI_int, gI0_int, gI2_int, ii_eqv, co_int, co_bl, co_non, co_row, co_rowO, co_nil, co_nilO, co_ps, co_p, co_p2, co_rows, ev_ll, ev_ol, ev_lo, ev_oo, ev_ln, ev_lno, ev_on, ev_ono, in_ps, in_row, gEq, gNe, gIn, gNotIn, g1, g2, gLen, gList, δof, List.getElem?_cons_zero, List.getElem?_cons_succ, List.getElem?_nil, List.set_cons_zero, List.set_cons_succ, List.map_cons, List.map_nil, List.length_cons, List.length_nil, List.replicate_succ, List.replicate_zero, List.cons_append, List.nil_append, Option.bind_some, Option.bind_none, List.all_cons, List.all_nil, List.append_nil, Nat.reduceAdd, Nat.reduceSub, true_and, and_true, Bool.and_true, Bool.true_and]
  rfl
def T_Minds_init_5 (K : PySem.W.Frag) : DI := (dIl (dVar 2))
theorem rd_Minds_init_5 {K : PySem.W.Frag} {n : Int} {ps : List (Int × Int)} : T_Minds_init_5 K (DV.no :: δof (N_Minds_init.length - 1) [.int n, .lst (ps.map pD)]) fun ds => ds = ps.map pD := by
  simp only [T_Minds_init_5, dSeq, dIfS, dT, dTn, dTa, dTo, dOp, dVar, dC, dFz_eq, dCB, dCons, dNil, dCall, dCallB, dMeth, dMethB, dSet, dApp, dExt, dRet, dRetM, dNx, dDrop, dNeg, dAnd, dOr, dNot, dIf, dCh, dCh3, dU, dTup, dLst, dFld, dIsi, dIl, dIe, dIr1, dIr2, dIv1, dgN, dgT, putAll, dFor, dPar2, dPar3, dSetT, dLc, dYes, dSl, dNo, dSome, dRev, dNev, dSset, dCount, dIndex, dLrg1, dLrg2, dTwo, un_non, un_int, un_bl, un_str, un_lst, un_tup, un_obj, un_dct, un_scr, un_olst, un_oll, un_oobj, un_mv, un_m, un_p, pl_non, pl_int, pl_bl, pl_str, pl_lst, pl_tup, pl_obj, pl_dct, pl_scr, pl_m, pl_p, fzm_non, fzm_int, fzm_bl, fzm_lst, fzm_tup, fzm_obj, fzm_scr, fzm_olst, fzm_oll, fzm_oobj, fzm_m, frz_non, frz_int, frz_bl, frz_str, frz_lst, frz_tup, frz_obj, frz_dct, frz_scr, frz_olst, frz_oll, frz_m, fz_no, fz_tr, see_no, see_tr, asB_bl, asI_int, asgD_non, asgD_int, asgD_bl, asgD_lst, asgD_tup, asgD_obj, asgD_mv, asgD_m, it_lst, it_olst, it_scr, li_lst, li_olst, pit_lst, pit_scr, sz_lst, sz_olst, sz_oll, sz_scr, sz_tup, ad_int, ad_ll, ad_oo, ad_lo, ad_ol, mu_int, mu_l, mu_o, gI_int, gI0_int, gI2_int, ii_eqv, co_int, co_bl, co_non, co_row, co_rowO, co_nil, co_nilO, co_ps, co_p, co_p2, co_rows, ev_ll, ev_ol, ev_lo, ev_oo, ev_ln, ev_lno, ev_on, ev_ono, in_ps, in_row, gEq, gNe, gIn, gNotIn, g1, g2, gLen, gList, δof, List.getElem?_cons_zero, List.getElem?_cons_succ, List.getElem?_nil, List.set_cons_zero, List.set_cons_succ, List.map_cons, List.map_nil, List.length_cons, List.length_nil, List.replicate_succ, List.replicate_zero, List.cons_append, List.nil_append, Option.bind_some, Option.bind_none, List.all_cons, List.all_nil, List.append_nil, Nat.reduceAdd, Nat.reduceSub, true_and, and_true, Bool.and_true, Bool.true_and]
end J
/-! M1: rows, what may change places; plain -/
namespace J
theorem mnd_refl (ps : List (Int × Int)) (a : Int) : mnd ps a a = true := by simp [mnd]
theorem mnd_symm (ps : List (Int × Int)) (a b : Int) : mnd ps a b = mnd ps b a := by
  unfold mnd
  by_cases h : a = b
  · rw [h]
  · have h2 : ¬ b = a := fun e => h e.symm
    by_cases c : a < b
    · have d : ¬ b < a := by omega
      simp [h, h2, c, d]
    · have d : b < a := by omega
      simp [h, h2, c, d]
/-- reflexive, symmetric -/
structure Mi (m : Int → Int → Bool) : Prop where
  r : ∀ a, m a a = true
  s : ∀ a b, m a b = m b a
theorem mi_mnd (ps : List (Int × Int)) : Mi (mnd ps) := ⟨mnd_refl ps, mnd_symm ps⟩
/-- k stands behind A, none of which minds it -/
def Fs (m : Int → Int → Bool) (k : Int) (xs A B : List Int) : Prop := xs = A ++ k :: B ∧ ∀ a ∈ A, m a k = false
section
variable {m : Int → Int → Bool}
theorem Fs.ne (hm : Mi m) {k : Int} {xs A B : List Int} (h : Fs m k xs A B) : k ∉ A := fun e => by
  have := h.2 k e
  rw [hm.r] at this
  cases this
theorem pf_cases (hm : Mi m) (k : Int) : ∀ (xs : List Int) (i : Nat), (∃ A B, Fs m k xs A B ∧ pf m k xs i = ((i + A.length : Nat) : Int)) ∨ (pf m k xs i = -1 ∧ ∀ A B, ¬ Fs m k xs A B)
  | [], i => .inr ⟨rfl, fun A B h => by
    have := h.1
    simp at this⟩
  | x :: xs, i => by
    unfold pf
    by_cases e : x = k
    · rw [if_pos e]
      exact .inl ⟨[], xs, ⟨by rw [e]; rfl, fun a ha => by cases ha⟩, rfl⟩
    · rw [if_neg e]
      by_cases e2 : m x k = true
      · rw [if_pos e2]
        refine .inr ⟨rfl, fun A B h => ?_⟩
        obtain ⟨h1, h2⟩ := h
        cases A with
        | nil =>
          injection h1 with h1 _
          exact e h1
        | cons a A =>
          injection h1 with h1 _
          have := h2 a List.mem_cons_self
          rw [← h1, e2] at this
          cases this
      · rw [if_neg e2]
        have e3 : m x k = false := by simpa using e2
        rcases pf_cases hm k xs (i + 1) with ⟨A, B, h, q⟩ | ⟨q, h⟩
        · refine .inl ⟨x :: A, B, ⟨by rw [h.1]; rfl, fun a ha => ?_⟩, by rw [q, List.length_cons]; congr 1; omega⟩
          rcases List.mem_cons.mp ha with rfl | ha
          · exact e3
          · exact h.2 a ha
        · refine .inr ⟨q, fun A B hF => ?_⟩
          obtain ⟨h1, h2⟩ := hF
          cases A with
          | nil =>
            injection h1 with h1 _
            exact e h1
          | cons a A =>
            injection h1 with _ h1
            exact h A B ⟨h1, fun b hb => h2 b (List.mem_cons_of_mem _ hb)⟩
theorem pf_at (hm : Mi m) {k : Int} {xs A B : List Int} (h : Fs m k xs A B) : pf m k xs 0 = (A.length : Int) := by
  rcases pf_cases hm k xs 0 with ⟨A', B', h', q⟩ | ⟨_, q⟩
  · have e : A.length = A'.length := by
      have n1 := h.ne hm
      have n2 := h'.ne hm
      have e := h.1.symm.trans h'.1
      rcases Nat.lt_trichotomy A.length A'.length with c | c | c
      · exfalso
        have z : A'[A.length]? = some k := by
          have z := congrArg (fun l => l[A.length]?) e
          simp only [List.getElem?_append_right (Nat.le_refl _), Nat.sub_self, List.getElem?_cons_zero, List.getElem?_append_left c] at z
          exact z.symm
        exact n2 (List.mem_of_getElem? z)
      · exact c
      · exfalso
        have z : A[A'.length]? = some k := by
          have z := congrArg (fun l => l[A'.length]?) e
          simp only [List.getElem?_append_right (Nat.le_refl _), Nat.sub_self, List.getElem?_cons_zero, List.getElem?_append_left c] at z
          exact z
        exact n1 (List.mem_of_getElem? z)
    rw [q, e, Nat.zero_add]
  · exact absurd h (q A B)
/-- k may be done first -/
def Fi (m : Int → Int → Bool) (k : Int) (xs : List Int) : Prop := ∃ A B, Fs m k xs A B
theorem pf_ge (hm : Mi m) {k : Int} {xs : List Int} : 0 ≤ pf m k xs 0 ↔ Fi m k xs := by
  rcases pf_cases hm k xs 0 with ⟨A, B, h, q⟩ | ⟨q, h⟩
  · rw [q]
    exact ⟨fun _ => ⟨A, B, h⟩, fun _ => by omega⟩
  · rw [q]
    exact ⟨fun h => by omega, fun ⟨A, B, hf⟩ => absurd hf (h A B)⟩
theorem mem_fst (hm : Mi m) {k : Int} {xs : List Int} : k ∈ fst m xs ↔ Fi m k xs := by
  unfold fst
  rw [List.mem_filter, decide_eq_true_eq, pf_ge hm, mem_uni]
  constructor
  · exact fun h => h.2
  · rintro ⟨A, B, h⟩
    exact ⟨by rw [h.1]; simp, A, B, h⟩
theorem up_fst {xs : List Int} : (fst m xs).Pairwise (· < ·) := List.Pairwise.filter _ up_uni
theorem fi_head {k : Int} {xs : List Int} : Fi m k (k :: xs) := ⟨[], xs, rfl, fun a ha => by cases ha⟩
theorem fst_ne (hm : Mi m) {xs : List Int} (h : xs ≠ []) : fst m xs ≠ [] := by
  cases xs with
  | nil => exact absurd rfl h
  | cons x xs =>
    intro e
    have z := (mem_fst hm (k := x) (xs := x :: xs)).mpr fi_head
    rw [e] at z
    cases z
theorem Fs.erase {k : Int} {xs A B : List Int} (h : Fs m k xs A B) : xs.eraseIdx A.length = A ++ B := by
  rw [h.1, List.eraseIdx_append_of_length_le (Nat.le_refl _), Nat.sub_self]
  rfl
/-! ### least -/
def lstGo (m : Int → Int → Bool) : Nat → List Int → List Int
  | 0, _ => []
  | f + 1, xs => match fst m xs with
    | [] => []
    | k :: _ => k :: lstGo m f (xs.eraseIdx (pf m k xs 0).toNat)
def lea (m : Int → Int → Bool) (xs : List Int) : List Int := lstGo m xs.length xs
theorem lea_nil : lea m [] = [] := rfl
theorem fst_head (hm : Mi m) {xs : List Int} (h : xs ≠ []) : ∃ k r A B, fst m xs = k :: r ∧ Fs m k xs A B := by
  cases e : fst m xs with
  | nil => exact absurd e (fst_ne hm h)
  | cons k r =>
    have z : k ∈ fst m xs := by rw [e]; exact List.mem_cons_self
    obtain ⟨A, B, h⟩ := (mem_fst hm).mp z
    exact ⟨k, r, A, B, rfl, h⟩
theorem lea_cons (hm : Mi m) {k : Int} {xs r A B : List Int} (e : fst m xs = k :: r) (h : Fs m k xs A B) : lea m xs = k :: lea m (A ++ B) := by
  have len : xs.length = (A ++ B).length + 1 := by
    rw [h.1, List.length_append, List.length_append, List.length_cons]
    omega
  unfold lea
  rw [len]
  show (match fst m xs with
    | [] => []
    | k :: _ => k :: lstGo m (A ++ B).length (xs.eraseIdx (pf m k xs 0).toNat)) = _
  rw [e]
  show k :: lstGo m (A ++ B).length (xs.eraseIdx (pf m k xs 0).toNat) = _
  rw [pf_at hm h, Int.toNat_natCast, h.erase]
/-! ### the same doing -/
inductive Tr (m : Int → Int → Bool) : List Int → List Int → Prop
  | rfl (xs : List Int) : Tr m xs xs
  | swp {xs A B : List Int} {a b : Int} : m a b = false → Tr m (A ++ b :: a :: B) xs → Tr m (A ++ a :: b :: B) xs
theorem Tr.trans {xs ys zs : List Int} (h : Tr m xs ys) : Tr m ys zs → Tr m xs zs := by
  induction h with
  | rfl => exact fun h => h
  | swp e _ ih => exact fun h => .swp e (ih h)
theorem Tr.one {A B : List Int} {a b : Int} (e : m a b = false) : Tr m (A ++ a :: b :: B) (A ++ b :: a :: B) := .swp e (.rfl _)
theorem Tr.symm (hm : Mi m) {xs ys : List Int} (h : Tr m xs ys) : Tr m ys xs := by
  induction h with
  | rfl => exact .rfl _
  | swp e _ ih => exact ih.trans (.one (by rw [hm.s]; exact e))
theorem Tr.pre {xs ys : List Int} (h : Tr m xs ys) (C : List Int) : Tr m (C ++ xs) (C ++ ys) := by
  induction h with
  | rfl => exact .rfl _
  | @swp zs A B a b e _ ih =>
    rw [← List.append_assoc] at ih ⊢
    exact .swp e ih
theorem Tr.suf {xs ys : List Int} (h : Tr m xs ys) (C : List Int) : Tr m (xs ++ C) (ys ++ C) := by
  induction h with
  | rfl => exact .rfl _
  | @swp zs A B a b e _ ih =>
    rw [List.append_assoc, List.cons_append, List.cons_append] at ih ⊢
    exact .swp e ih
theorem Tr.cons {xs ys : List Int} (h : Tr m xs ys) (k : Int) : Tr m (k :: xs) (k :: ys) := h.pre [k]
theorem Tr.perm {xs ys : List Int} (h : Tr m xs ys) : xs.Perm ys := by
  induction h with
  | rfl => exact .refl _
  | swp _ _ ih => exact (List.Perm.append_left _ (List.Perm.swap _ _ _)).trans ih
theorem Tr.len {xs ys : List Int} (h : Tr m xs ys) : xs.length = ys.length := h.perm.length_eq
/-- led to the front -/
theorem Tr.lead {k : Int} {B : List Int} : ∀ {A : List Int}, (∀ a ∈ A, m a k = false) → Tr m (A ++ k :: B) (k :: (A ++ B))
  | [], _ => .rfl _
  | a :: A, h => by
    have ih : Tr m (A ++ k :: B) (k :: (A ++ B)) := Tr.lead fun b hb => h b (List.mem_cons_of_mem _ hb)
    exact (ih.cons a).trans (.one (A := []) (h a List.mem_cons_self))
theorem Fs.tr {k : Int} {xs A B : List Int} (h : Fs m k xs A B) : Tr m xs (k :: (A ++ B)) := by
  rw [h.1]
  exact Tr.lead h.2
/-- what may be first stays so -/
theorem Fs.swap (hm : Mi m) {k a b : Int} {P S A B : List Int} (e : m a b = false) (h : Fs m k (P ++ a :: b :: S) A B) : ∃ A' B', Fs m k (P ++ b :: a :: S) A' B' ∧ Tr m (A ++ B) (A' ++ B') := by
  obtain ⟨h1, h2⟩ := h
  rcases List.append_eq_append_iff.mp h1 with ⟨C, rfl, h3⟩ | ⟨C, rfl, h3⟩
  · -- A = P ++ C
    cases C with
    | nil =>
      -- k = a
      rw [List.nil_append] at h3
      injection h3 with h4 h5
      subst h4
      subst h5
      refine ⟨P ++ [b], S, ⟨by simp, fun x hx => ?_⟩, ?_⟩
      · rcases List.mem_append.mp hx with hx | hx
        · exact h2 x (by simpa using hx)
        · rw [List.mem_singleton.mp hx, hm.s]
          exact e
      · simp
        exact .rfl _
    | cons c C =>
      rw [List.cons_append] at h3
      injection h3 with h4 h5
      subst h4
      cases C with
      | nil =>
        -- k = b
        rw [List.nil_append] at h5
        injection h5 with h6 h7
        subst h6
        subst h7
        refine ⟨P, a :: S, ⟨rfl, fun x hx => h2 x (List.mem_append_left _ hx)⟩, ?_⟩
        simp
        exact .rfl _
      | cons c2 C =>
        rw [List.cons_append] at h5
        injection h5 with h6 h7
        subst h6
        subst h7
        refine ⟨P ++ b :: a :: C, B, ⟨by simp, fun x hx => h2 x ?_⟩, ?_⟩
        · simp only [List.mem_append, List.mem_cons] at hx ⊢
          rcases hx with hx | hx | hx | hx
          · exact .inl hx
          · exact .inr (.inr (.inl hx))
          · exact .inr (.inl hx)
          · exact .inr (.inr (.inr hx))
        · rw [List.append_assoc, List.append_assoc]
          exact .one e
  · -- P = A ++ C, k :: B = C ++ ..
    cases C with
    | nil =>
      rw [List.nil_append] at h3
      injection h3 with h4 h5
      subst h4
      subst h5
      refine ⟨A ++ [b], S, ⟨by simp, fun x hx => ?_⟩, ?_⟩
      · rcases List.mem_append.mp hx with hx | hx
        · exact h2 x hx
        · rw [List.mem_singleton.mp hx, hm.s]
          exact e
      · simp
        exact .rfl _
    | cons c C =>
      rw [List.cons_append] at h3
      injection h3 with h4 h5
      subst h4
      subst h5
      refine ⟨A, C ++ b :: a :: S, ⟨by simp, h2⟩, ?_⟩
      rw [← List.append_assoc, ← List.append_assoc]
      exact .one e
/-- of the same doing: what is first, and what is left then -/
theorem Fs.same (hm : Mi m) {k : Int} {xs ys : List Int} (h : Tr m xs ys) : ∀ {A B : List Int}, Fs m k xs A B → ∃ A' B', Fs m k ys A' B' ∧ Tr m (A ++ B) (A' ++ B') := by
  induction h with
  | rfl => exact fun h => ⟨_, _, h, .rfl _⟩
  | swp e _ ih =>
    intro A B h
    obtain ⟨A1, B1, h1, t1⟩ := h.swap hm e
    obtain ⟨A2, B2, h2, t2⟩ := ih h1
    exact ⟨A2, B2, h2, t1.trans t2⟩
theorem Fi.same (hm : Mi m) {k : Int} {xs ys : List Int} (h : Tr m xs ys) : Fi m k xs → Fi m k ys := fun ⟨_, _, hf⟩ => by
  obtain ⟨A, B, h, _⟩ := hf.same hm h
  exact ⟨A, B, h⟩
theorem fst_same (hm : Mi m) {xs ys : List Int} (h : Tr m xs ys) : fst m xs = fst m ys := up_eq up_fst up_fst fun k => by
  rw [mem_fst hm, mem_fst hm]
  exact ⟨Fi.same hm h, Fi.same hm (h.symm hm)⟩
theorem lea_same (hm : Mi m) : ∀ (n : Nat) {xs ys : List Int}, xs.length = n → Tr m xs ys → lea m xs = lea m ys
  | 0, xs, ys, hl, h => by
    have e := h.len
    have e1 := List.length_eq_zero_iff.mp hl
    have e2 := List.length_eq_zero_iff.mp (e.symm.trans hl)
    rw [e1, e2]
  | n + 1, xs, ys, hl, h => by
    have ne : xs ≠ [] := fun e => by rw [e] at hl; cases hl
    obtain ⟨k, r, A, B, e, hf⟩ := fst_head hm ne
    obtain ⟨A', B', hf', t⟩ := hf.same hm h
    rw [lea_cons hm e hf, lea_cons hm ((fst_same hm h).symm.trans e) hf']
    rw [lea_same hm n ?_ t]
    rw [hf.1, List.length_append, List.length_cons] at hl
    rw [List.length_append]
    omega
theorem lea_tr (hm : Mi m) : ∀ (n : Nat) {xs : List Int}, xs.length = n → Tr m xs (lea m xs)
  | 0, xs, hl => by
    rw [List.length_eq_zero_iff.mp hl]
    exact .rfl _
  | n + 1, xs, hl => by
    have ne : xs ≠ [] := fun e => by rw [e] at hl; cases hl
    obtain ⟨k, r, A, B, e, hf⟩ := fst_head hm ne
    rw [lea_cons hm e hf]
    refine hf.tr.trans ((lea_tr hm n ?_).cons k)
    rw [hf.1, List.length_append, List.length_cons] at hl
    rw [List.length_append]
    omega
/-- the least of the least is itself -/
theorem lea_lea (hm : Mi m) (xs : List Int) : lea m (lea m xs) = lea m xs := (lea_same hm _ rfl (lea_tr hm _ rfl)).symm
end
end J
/-! P2: least; the law's own small defs -/
namespace J
open PySem PySem.Spec PyProof.Rows L2
def G_least (K : PySem.W.Frag) : GD := fun ds P => ∃ n ps xs, ds = [mK K n ps, rD xs] ∧ Kinds n xs ∧ xs.length ≤ 1000 ∧ P (.mv (.olst ((lea (mnd ps) xs).map .int)))
/-! ### least -/
abbrev N_least : List Str := ["minds", "row", "found", "left", "kind"]
def T_least_w1 (K : PySem.W.Frag) : DS := (dSeq (dSet 4 (dOp gIx (dCall (G_firsts_of K) (dCons (dVar 0) (dCons (dVar 3) dNil))) (dC (.int 0))))
  (dSeq (dApp 2 (dVar 4))
  (dSet 3 (dFz (dCall (G_without K) (dCons (dVar 3) (dCons (dFz (dCall (G_place_first K) (dCons (dVar 0) (dCons (dVar 3) (dCons (dVar 4) dNil))))) dNil)))))))
def T_least_w1t (K : PySem.W.Frag) : DT := (dT (dOp gNe (dVar 3) (dLst dNil)))
def T_least (K : PySem.W.Frag) : DS := (dSeq (dDrop (dCall (G_check_row K) (dCons (dVar 0) (dCons (dVar 1) dNil))))
  (dSeq (dSet 2 (dLst dNil))
  (dSeq (dSet 3 (dFz (dCB gList (dCons (dVar 1) dNil))))
  (dSeq (dWhile (T_least_w1t K) (T_least_w1 K))
  (dRetM 2)))))
theorem least_w {K : PySem.W.Frag} {n : Int} {ps : List (Int × Int)} {row : D} {E : EndsD} : ∀ (f : Nat) (xs acc : List Int) (e4 : DV), xs.length = f → acc.length + f ≤ 1000 → (∀ e4 left, E.nx [.tr (mK K n ps), .tr row, .tr (.olst ((acc ++ lea (mnd ps) xs).map .int)), left, e4]) →
    whileGo (T_least_w1t K) (T_least_w1 K) E (f + 1) [.tr (mK K n ps), .tr row, .tr (.olst (acc.map .int)), .tr (rD xs), e4]
  | 0, xs, acc, e4, hl, ha, h => by
    refine whileGo_op fun N hN => ?_
    have e := List.length_eq_zero_iff.mp hl
    subst e
    rw [lea_nil, List.append_nil] at h
    simp only [T_least_w1t, mK, rD, dSeq, dIfS, dT, dTn, dTa, dTo, dOp, dVar, dC, dFz_eq, dCB, dCons, dNil, dCall, dCallB, dMeth, dMethB, dSet, dApp, dExt, dRet, dRetM, dNx, dDrop, dNeg, dAnd, dOr, dNot, dIf, dCh, dCh3, dU, dTup, dLst, dFld, dIsi, dIl, dIe, dIr1, dIr2, dIv1, dgN, dgT, putAll, dFor, dPar2, dPar3, dSetT, dLc, dYes, dSl, dNo, dSome, dRev, dNev, dSset, dCount, dIndex, dLrg1, dLrg2, dTwo, un_non, un_int, un_bl, un_str, un_lst, un_tup, un_obj, un_dct, un_scr, un_olst, un_oll, un_oobj, un_mv, un_m, un_p, pl_non, pl_int, pl_bl, pl_str, pl_lst, pl_tup, pl_obj, pl_dct, pl_scr, pl_m, pl_p, fzm_non, fzm_int, fzm_bl, fzm_lst, fzm_tup, fzm_obj, fzm_scr, fzm_olst, fzm_oll, fzm_oobj, fzm_m, frz_non, frz_int, frz_bl, frz_str, frz_lst, frz_tup, frz_obj, frz_dct, frz_scr, frz_olst, frz_oll, frz_m, fz_no, fz_tr, see_no, see_tr, asB_bl, asI_int, asgD_non, asgD_int, asgD_bl, asgD_lst, asgD_tup, asgD_obj, asgD_mv, asgD_m, it_lst, it_olst, it_scr, li_lst, li_olst, pit_lst, pit_scr, sz_lst, sz_olst, sz_oll, sz_scr, sz_tup, ad_int, ad_ll, ad_oo, ad_lo, ad_ol, mu_int, mu_l, mu_o, gI_int, gI0_int, gI2_int, ii_eqv, co_int, co_bl, co_non, co_row, co_rowO, co_nil, co_nilO, co_ps, co_p, co_p2, co_rows, ev_ll, ev_ol, ev_lo, ev_oo, ev_ln, ev_lno, ev_on, ev_ono, in_ps, in_row, gEq, gNe, gIn, gNotIn, g1, g2, gLen, gList, δof, List.getElem?_cons_zero, List.getElem?_cons_succ, List.getElem?_nil, List.set_cons_zero, List.set_cons_succ, List.map_cons, List.map_nil, List.length_cons, List.length_nil, List.replicate_succ, List.replicate_zero, List.cons_append, List.nil_append, Option.bind_some, Option.bind_none, List.all_cons, List.all_nil, List.append_nil, Nat.reduceAdd, Nat.reduceSub, true_and, and_true, Bool.and_true, Bool.true_and]
    exact ⟨by decide, h e4 _⟩
  | f + 1, xs, acc, e4, hl, ha, h => by
    refine whileGo_op fun N hN => ?_
    have ne : xs ≠ [] := fun e => by rw [e] at hl; cases hl
    obtain ⟨k, r, A, B, ef, hf⟩ := fst_head (mi_mnd ps) ne
    simp only [T_least_w1t, mK, rD, dSeq, dIfS, dT, dTn, dTa, dTo, dOp, dVar, dC, dFz_eq, dCB, dCons, dNil, dCall, dCallB, dMeth, dMethB, dSet, dApp, dExt, dRet, dRetM, dNx, dDrop, dNeg, dAnd, dOr, dNot, dIf, dCh, dCh3, dU, dTup, dLst, dFld, dIsi, dIl, dIe, dIr1, dIr2, dIv1, dgN, dgT, putAll, dFor, dPar2, dPar3, dSetT, dLc, dYes, dSl, dNo, dSome, dRev, dNev, dSset, dCount, dIndex, dLrg1, dLrg2, dTwo, un_non, un_int, un_bl, un_str, un_lst, un_tup, un_obj, un_dct, un_scr, un_olst, un_oll, un_oobj, un_mv, un_m, un_p, pl_non, pl_int, pl_bl, pl_str, pl_lst, pl_tup, pl_obj, pl_dct, pl_scr, pl_m, pl_p, fzm_non, fzm_int, fzm_bl, fzm_lst, fzm_tup, fzm_obj, fzm_scr, fzm_olst, fzm_oll, fzm_oobj, fzm_m, frz_non, frz_int, frz_bl, frz_str, frz_lst, frz_tup, frz_obj, frz_dct, frz_scr, frz_olst, frz_oll, frz_m, fz_no, fz_tr, see_no, see_tr, asB_bl, asI_int, asgD_non, asgD_int, asgD_bl, asgD_lst, asgD_tup, asgD_obj, asgD_mv, asgD_m, it_lst, it_olst, it_scr, li_lst, li_olst, pit_lst, pit_scr, sz_lst, sz_olst, sz_oll, sz_scr, sz_tup, ad_int, ad_ll, ad_oo, ad_lo, ad_ol, mu_int, mu_l, mu_o, gI_int, gI0_int, gI2_int, ii_eqv, co_int, co_bl, co_non, co_row, co_rowO, co_nil, co_nilO, co_ps, co_p, co_p2, co_rows, ev_ll, ev_ol, ev_lo, ev_oo, ev_ln, ev_lno, ev_on, ev_ono, in_ps, in_row, gEq, gNe, gIn, gNotIn, g1, g2, gLen, gList, δof, List.getElem?_cons_zero, List.getElem?_cons_succ, List.getElem?_nil, List.set_cons_zero, List.set_cons_succ, List.map_cons, List.map_nil, List.length_cons, List.length_nil, List.replicate_succ, List.replicate_zero, List.cons_append, List.nil_append, Option.bind_some, Option.bind_none, List.all_cons, List.all_nil, List.append_nil, Nat.reduceAdd, Nat.reduceSub, true_and, and_true, Bool.and_true, Bool.true_and]
    refine ⟨by decide, ?_⟩
    rw [decide_eq_false ne]
    simp only [Bool.not_false, T_least_w1, mK, rD, dSeq, dIfS, dT, dTn, dTa, dTo, dOp, dVar, dC, dFz_eq, dCB, dCons, dNil, dCall, dCallB, dMeth, dMethB, dSet, dApp, dExt, dRet, dRetM, dNx, dDrop, dNeg, dAnd, dOr, dNot, dIf, dCh, dCh3, dU, dTup, dLst, dFld, dIsi, dIl, dIe, dIr1, dIr2, dIv1, dgN, dgT, putAll, dFor, dPar2, dPar3, dSetT, dLc, dYes, dSl, dNo, dSome, dRev, dNev, dSset, dCount, dIndex, dLrg1, dLrg2, dTwo, un_non, un_int, un_bl, un_str, un_lst, un_tup, un_obj, un_dct, un_scr, un_olst, un_oll, un_oobj, un_mv, un_m, un_p, pl_non, pl_int, pl_bl, pl_str, pl_lst, pl_tup, pl_obj, pl_dct, pl_scr, pl_m, pl_p, fzm_non, fzm_int, fzm_bl, fzm_lst, fzm_tup, fzm_obj, fzm_scr, fzm_olst, fzm_oll, fzm_oobj, fzm_m, frz_non, frz_int, frz_bl, frz_str, frz_lst, frz_tup, frz_obj, frz_dct, frz_scr, frz_olst, frz_oll, frz_m, fz_no, fz_tr, see_no, see_tr, asB_bl, asI_int, asgD_non, asgD_int, asgD_bl, asgD_lst, asgD_tup, asgD_obj, asgD_mv, asgD_m, it_lst, it_olst, it_scr, li_lst, li_olst, pit_lst, pit_scr, sz_lst, sz_olst, sz_oll, sz_scr, sz_tup, ad_int, ad_ll, ad_oo, ad_lo, ad_ol, mu_int, mu_l, mu_o, gI_int, gI0_int, gI2_int, ii_eqv, co_int, co_bl, co_non, co_row, co_rowO, co_nil, co_nilO, co_ps, co_p, co_p2, co_rows, ev_ll, ev_ol, ev_lo, ev_oo, ev_ln, ev_lno, ev_on, ev_ono, in_ps, in_row, gEq, gNe, gIn, gNotIn, g1, g2, gLen, gList, δof, List.getElem?_cons_zero, List.getElem?_cons_succ, List.getElem?_nil, List.set_cons_zero, List.set_cons_succ, List.map_cons, List.map_nil, List.length_cons, List.length_nil, List.replicate_succ, List.replicate_zero, List.cons_append, List.nil_append, Option.bind_some, Option.bind_none, List.all_cons, List.all_nil, List.append_nil, Nat.reduceAdd, Nat.reduceSub, true_and, and_true, Bool.and_true, Bool.true_and]
    refine ⟨n, ps, xs, rfl, by omega, ?_⟩
    rw [ef]
    simp only [dSeq, dIfS, dT, dTn, dTa, dTo, dOp, dVar, dC, dFz_eq, dCB, dCons, dNil, dCall, dCallB, dMeth, dMethB, dSet, dApp, dExt, dRet, dRetM, dNx, dDrop, dNeg, dAnd, dOr, dNot, dIf, dCh, dCh3, dU, dTup, dLst, dFld, dIsi, dIl, dIe, dIr1, dIr2, dIv1, dgN, dgT, putAll, dFor, dPar2, dPar3, dSetT, dLc, dYes, dSl, dNo, dSome, dRev, dNev, dSset, dCount, dIndex, dLrg1, dLrg2, dTwo, un_non, un_int, un_bl, un_str, un_lst, un_tup, un_obj, un_dct, un_scr, un_olst, un_oll, un_oobj, un_mv, un_m, un_p, pl_non, pl_int, pl_bl, pl_str, pl_lst, pl_tup, pl_obj, pl_dct, pl_scr, pl_m, pl_p, fzm_non, fzm_int, fzm_bl, fzm_lst, fzm_tup, fzm_obj, fzm_scr, fzm_olst, fzm_oll, fzm_oobj, fzm_m, frz_non, frz_int, frz_bl, frz_str, frz_lst, frz_tup, frz_obj, frz_dct, frz_scr, frz_olst, frz_oll, frz_m, fz_no, fz_tr, see_no, see_tr, asB_bl, asI_int, asgD_non, asgD_int, asgD_bl, asgD_lst, asgD_tup, asgD_obj, asgD_mv, asgD_m, it_lst, it_olst, it_scr, li_lst, li_olst, pit_lst, pit_scr, sz_lst, sz_olst, sz_oll, sz_scr, sz_tup, ad_int, ad_ll, ad_oo, ad_lo, ad_ol, mu_int, mu_l, mu_o, gI_int, gI0_int, gI2_int, ii_eqv, co_int, co_bl, co_non, co_row, co_rowO, co_nil, co_nilO, co_ps, co_p, co_p2, co_rows, ev_ll, ev_ol, ev_lo, ev_oo, ev_ln, ev_lno, ev_on, ev_ono, in_ps, in_row, gEq, gNe, gIn, gNotIn, g1, g2, gLen, gList, δof, List.getElem?_cons_zero, List.getElem?_cons_succ, List.getElem?_nil, List.set_cons_zero, List.set_cons_succ, List.map_cons, List.map_nil, List.length_cons, List.length_nil, List.replicate_succ, List.replicate_zero, List.cons_append, List.nil_append, Option.bind_some, Option.bind_none, List.all_cons, List.all_nil, List.append_nil, Nat.reduceAdd, Nat.reduceSub, true_and, and_true, Bool.and_true, Bool.true_and]
    refine ix_olst ⟨_, at_zero, ?_⟩
    simp only [dSeq, dIfS, dT, dTn, dTa, dTo, dOp, dVar, dC, dFz_eq, dCB, dCons, dNil, dCall, dCallB, dMeth, dMethB, dSet, dApp, dExt, dRet, dRetM, dNx, dDrop, dNeg, dAnd, dOr, dNot, dIf, dCh, dCh3, dU, dTup, dLst, dFld, dIsi, dIl, dIe, dIr1, dIr2, dIv1, dgN, dgT, putAll, dFor, dPar2, dPar3, dSetT, dLc, dYes, dSl, dNo, dSome, dRev, dNev, dSset, dCount, dIndex, dLrg1, dLrg2, dTwo, un_non, un_int, un_bl, un_str, un_lst, un_tup, un_obj, un_dct, un_scr, un_olst, un_oll, un_oobj, un_mv, un_m, un_p, pl_non, pl_int, pl_bl, pl_str, pl_lst, pl_tup, pl_obj, pl_dct, pl_scr, pl_m, pl_p, fzm_non, fzm_int, fzm_bl, fzm_lst, fzm_tup, fzm_obj, fzm_scr, fzm_olst, fzm_oll, fzm_oobj, fzm_m, frz_non, frz_int, frz_bl, frz_str, frz_lst, frz_tup, frz_obj, frz_dct, frz_scr, frz_olst, frz_oll, frz_m, fz_no, fz_tr, see_no, see_tr, asB_bl, asI_int, asgD_non, asgD_int, asgD_bl, asgD_lst, asgD_tup, asgD_obj, asgD_mv, asgD_m, it_lst, it_olst, it_scr, li_lst, li_olst, pit_lst, pit_scr, sz_lst, sz_olst, sz_oll, sz_scr, sz_tup, ad_int, ad_ll, ad_oo, ad_lo, ad_ol, mu_int, mu_l, mu_o, gI_int, gI0_int, gI2_int, ii_eqv, co_int, co_bl, co_non, co_row, co_rowO, co_nil, co_nilO, co_ps, co_p, co_p2, co_rows, ev_ll, ev_ol, ev_lo, ev_oo, ev_ln, ev_lno, ev_on, ev_ono, in_ps, in_row, gEq, gNe, gIn, gNotIn, g1, g2, gLen, gList, δof, List.getElem?_cons_zero, List.getElem?_cons_succ, List.getElem?_nil, List.set_cons_zero, List.set_cons_succ, List.map_cons, List.map_nil, List.length_cons, List.length_nil, List.replicate_succ, List.replicate_zero, List.cons_append, List.nil_append, Option.bind_some, Option.bind_none, List.all_cons, List.all_nil, List.append_nil, Nat.reduceAdd, Nat.reduceSub, true_and, and_true, Bool.and_true, Bool.true_and]
    refine ⟨by rw [List.length_map]; omega, n, ps, xs, k, rfl, ?_⟩
    rw [pf_at (mi_mnd ps) hf]
    simp only [dSeq, dIfS, dT, dTn, dTa, dTo, dOp, dVar, dC, dFz_eq, dCB, dCons, dNil, dCall, dCallB, dMeth, dMethB, dSet, dApp, dExt, dRet, dRetM, dNx, dDrop, dNeg, dAnd, dOr, dNot, dIf, dCh, dCh3, dU, dTup, dLst, dFld, dIsi, dIl, dIe, dIr1, dIr2, dIv1, dgN, dgT, putAll, dFor, dPar2, dPar3, dSetT, dLc, dYes, dSl, dNo, dSome, dRev, dNev, dSset, dCount, dIndex, dLrg1, dLrg2, dTwo, un_non, un_int, un_bl, un_str, un_lst, un_tup, un_obj, un_dct, un_scr, un_olst, un_oll, un_oobj, un_mv, un_m, un_p, pl_non, pl_int, pl_bl, pl_str, pl_lst, pl_tup, pl_obj, pl_dct, pl_scr, pl_m, pl_p, fzm_non, fzm_int, fzm_bl, fzm_lst, fzm_tup, fzm_obj, fzm_scr, fzm_olst, fzm_oll, fzm_oobj, fzm_m, frz_non, frz_int, frz_bl, frz_str, frz_lst, frz_tup, frz_obj, frz_dct, frz_scr, frz_olst, frz_oll, frz_m, fz_no, fz_tr, see_no, see_tr, asB_bl, asI_int, asgD_non, asgD_int, asgD_bl, asgD_lst, asgD_tup, asgD_obj, asgD_mv, asgD_m, it_lst, it_olst, it_scr, li_lst, li_olst, pit_lst, pit_scr, sz_lst, sz_olst, sz_oll, sz_scr, sz_tup, ad_int, ad_ll, ad_oo, ad_lo, ad_ol, mu_int, mu_l, mu_o, gI_int, gI0_int, gI2_int, ii_eqv, co_int, co_bl, co_non, co_row, co_rowO, co_nil, co_nilO, co_ps, co_p, co_p2, co_rows, ev_ll, ev_ol, ev_lo, ev_oo, ev_ln, ev_lno, ev_on, ev_ono, in_ps, in_row, gEq, gNe, gIn, gNotIn, g1, g2, gLen, gList, δof, List.getElem?_cons_zero, List.getElem?_cons_succ, List.getElem?_nil, List.set_cons_zero, List.set_cons_succ, List.map_cons, List.map_nil, List.length_cons, List.length_nil, List.replicate_succ, List.replicate_zero, List.cons_append, List.nil_append, Option.bind_some, Option.bind_none, List.all_cons, List.all_nil, List.append_nil, Nat.reduceAdd, Nat.reduceSub, true_and, and_true, Bool.and_true, Bool.true_and]
    have la : A.length < xs.length := by
      rw [hf.1, List.length_append, List.length_cons]
      omega
    refine ⟨xs, A.length, rfl, la, by omega, ?_⟩
    rw [hf.erase, hN]
    simp only [dSeq, dIfS, dT, dTn, dTa, dTo, dOp, dVar, dC, dFz_eq, dCB, dCons, dNil, dCall, dCallB, dMeth, dMethB, dSet, dApp, dExt, dRet, dRetM, dNx, dDrop, dNeg, dAnd, dOr, dNot, dIf, dCh, dCh3, dU, dTup, dLst, dFld, dIsi, dIl, dIe, dIr1, dIr2, dIv1, dgN, dgT, putAll, dFor, dPar2, dPar3, dSetT, dLc, dYes, dSl, dNo, dSome, dRev, dNev, dSset, dCount, dIndex, dLrg1, dLrg2, dTwo, un_non, un_int, un_bl, un_str, un_lst, un_tup, un_obj, un_dct, un_scr, un_olst, un_oll, un_oobj, un_mv, un_m, un_p, pl_non, pl_int, pl_bl, pl_str, pl_lst, pl_tup, pl_obj, pl_dct, pl_scr, pl_m, pl_p, fzm_non, fzm_int, fzm_bl, fzm_lst, fzm_tup, fzm_obj, fzm_scr, fzm_olst, fzm_oll, fzm_oobj, fzm_m, frz_non, frz_int, frz_bl, frz_str, frz_lst, frz_tup, frz_obj, frz_dct, frz_scr, frz_olst, frz_oll, frz_m, fz_no, fz_tr, see_no, see_tr, asB_bl, asI_int, asgD_non, asgD_int, asgD_bl, asgD_lst, asgD_tup, asgD_obj, asgD_mv, asgD_m, it_lst, it_olst, it_scr, li_lst, li_olst, pit_lst, pit_scr, sz_lst, sz_olst, sz_oll, sz_scr, sz_tup, ad_int, ad_ll, ad_oo, ad_lo, ad_ol, mu_int, mu_l, mu_o, gI_int, gI0_int, gI2_int, ii_eqv, co_int, co_bl, co_non, co_row, co_rowO, co_nil, co_nilO, co_ps, co_p, co_p2, co_rows, ev_ll, ev_ol, ev_lo, ev_oo, ev_ln, ev_lno, ev_on, ev_ono, in_ps, in_row, gEq, gNe, gIn, gNotIn, g1, g2, gLen, gList, δof, List.getElem?_cons_zero, List.getElem?_cons_succ, List.getElem?_nil, List.set_cons_zero, List.set_cons_succ, List.map_cons, List.map_nil, List.length_cons, List.length_nil, List.replicate_succ, List.replicate_zero, List.cons_append, List.nil_append, Option.bind_some, Option.bind_none, List.all_cons, List.all_nil, List.append_nil, Nat.reduceAdd, Nat.reduceSub, true_and, and_true, Bool.and_true, Bool.true_and]
    have z := least_w (K := K) (n := n) (ps := ps) (row := row) (E := E) f (A ++ B) (acc ++ [k]) (.tr (.int k)) (by
      rw [hf.1, List.length_append, List.length_cons] at hl
      rw [List.length_append]
      omega) (by rw [List.length_append, List.length_cons, List.length_nil]; omega) fun e4 left => by
        have q := h e4 left
        rw [lea_cons (mi_mnd ps) ef hf] at q
        rw [List.append_assoc]
        exact q
    rw [List.map_append] at z
    exact z
theorem rd_least {K : PySem.W.Frag} : ∀ ds Q, G_least K ds Q → T_least K { nx := fun _ => Q .non, rt := Q } (δof N_least.length ds) := by
  rintro _ Q ⟨n, ps, xs, rfl, hx, hl, h⟩
  simp only [T_least, mK, rD, dSeq, dIfS, dT, dTn, dTa, dTo, dOp, dVar, dC, dFz_eq, dCB, dCons, dNil, dCall, dCallB, dMeth, dMethB, dSet, dApp, dExt, dRet, dRetM, dNx, dDrop, dNeg, dAnd, dOr, dNot, dIf, dCh, dCh3, dU, dTup, dLst, dFld, dIsi, dIl, dIe, dIr1, dIr2, dIv1, dgN, dgT, putAll, dFor, dPar2, dPar3, dSetT, dLc, dYes, dSl, dNo, dSome, dRev, dNev, dSset, dCount, dIndex, dLrg1, dLrg2, dTwo, un_non, un_int, un_bl, un_str, un_lst, un_tup, un_obj, un_dct, un_scr, un_olst, un_oll, un_oobj, un_mv, un_m, un_p, pl_non, pl_int, pl_bl, pl_str, pl_lst, pl_tup, pl_obj, pl_dct, pl_scr, pl_m, pl_p, fzm_non, fzm_int, fzm_bl, fzm_lst, fzm_tup, fzm_obj, fzm_scr, fzm_olst, fzm_oll, fzm_oobj, fzm_m, frz_non, frz_int, frz_bl, frz_str, frz_lst, frz_tup, frz_obj, frz_dct, frz_scr, frz_olst, frz_oll, frz_m, fz_no, fz_tr, see_no, see_tr, asB_bl, asI_int, asgD_non, asgD_int, asgD_bl, asgD_lst, asgD_tup, asgD_obj, asgD_mv, asgD_m, it_lst, it_olst, it_scr, li_lst, li_olst, pit_lst, pit_scr, sz_lst, sz_olst, sz_oll, sz_scr, sz_tup, ad_int, ad_ll, ad_oo, ad_lo, ad_ol, mu_int, mu_l, mu_o, gI_int, gI0_int, gI2_int, ii_eqv, co_int, co_bl, co_non, co_row, co_rowO, co_nil, co_nilO, co_ps, co_p, co_p2, co_rows, ev_ll, ev_ol, ev_lo, ev_oo, ev_ln, ev_lno, ev_on, ev_ono, in_ps, in_row, gEq, gNe, gIn, gNotIn, g1, g2, gLen, gList, δof, List.getElem?_cons_zero, List.getElem?_cons_succ, List.getElem?_nil, List.set_cons_zero, List.set_cons_succ, List.map_cons, List.map_nil, List.length_cons, List.length_nil, List.replicate_succ, List.replicate_zero, List.cons_append, List.nil_append, Option.bind_some, Option.bind_none, List.all_cons, List.all_nil, List.append_nil, Nat.reduceAdd, Nat.reduceSub, true_and, and_true, Bool.and_true, Bool.true_and]
  refine ⟨n, ps, xs, rfl, hx, hl, ?_⟩
  refine ⟨by decide, xs.length + 1, ?_⟩
  refine least_w (K := K) (n := n) (ps := ps) (row := rD xs) xs.length xs [] _ rfl (by simpa using hl) fun e4 left => ?_
  simp only [dSeq, dIfS, dT, dTn, dTa, dTo, dOp, dVar, dC, dFz_eq, dCB, dCons, dNil, dCall, dCallB, dMeth, dMethB, dSet, dApp, dExt, dRet, dRetM, dNx, dDrop, dNeg, dAnd, dOr, dNot, dIf, dCh, dCh3, dU, dTup, dLst, dFld, dIsi, dIl, dIe, dIr1, dIr2, dIv1, dgN, dgT, putAll, dFor, dPar2, dPar3, dSetT, dLc, dYes, dSl, dNo, dSome, dRev, dNev, dSset, dCount, dIndex, dLrg1, dLrg2, dTwo, un_non, un_int, un_bl, un_str, un_lst, un_tup, un_obj, un_dct, un_scr, un_olst, un_oll, un_oobj, un_mv, un_m, un_p, pl_non, pl_int, pl_bl, pl_str, pl_lst, pl_tup, pl_obj, pl_dct, pl_scr, pl_m, pl_p, fzm_non, fzm_int, fzm_bl, fzm_lst, fzm_tup, fzm_obj, fzm_scr, fzm_olst, fzm_oll, fzm_oobj, fzm_m, frz_non, frz_int, frz_bl, frz_str, frz_lst, frz_tup, frz_obj, frz_dct, frz_scr, frz_olst, frz_oll, frz_m, fz_no, fz_tr, see_no, see_tr, asB_bl, asI_int, asgD_non, asgD_int, asgD_bl, asgD_lst, asgD_tup, asgD_obj, asgD_mv, asgD_m, it_lst, it_olst, it_scr, li_lst, li_olst, pit_lst, pit_scr, sz_lst, sz_olst, sz_oll, sz_scr, sz_tup, ad_int, ad_ll, ad_oo, ad_lo, ad_ol, mu_int, mu_l, mu_o, gI_int, gI0_int, gI2_int, ii_eqv, co_int, co_bl, co_non, co_row, co_rowO, co_nil, co_nilO, co_ps, co_p, co_p2, co_rows, ev_ll, ev_ol, ev_lo, ev_oo, ev_ln, ev_lno, ev_on, ev_ono, in_ps, in_row, gEq, gNe, gIn, gNotIn, g1, g2, gLen, gList, δof, List.getElem?_cons_zero, List.getElem?_cons_succ, List.getElem?_nil, List.set_cons_zero, List.set_cons_succ, List.map_cons, List.map_nil, List.length_cons, List.length_nil, List.replicate_succ, List.replicate_zero, List.cons_append, List.nil_append, Option.bind_some, Option.bind_none, List.all_cons, List.all_nil, List.append_nil, Nat.reduceAdd, Nat.reduceSub, true_and, and_true, Bool.and_true, Bool.true_and]
  exact h

/-! ### the law's own -/
def G_law_mind (_K : PySem.W.Frag) : GD := fun ds P => ∃ ps a b, ds = [.lst (ps.map pD), .int a, .int b] ∧ P (.bl (mnd ps a b))
/-! ### law_mind -/
abbrev N_law_mind : List Str := ["_law_pairs", "_law_one", "_law_other"]
def T_law_mind (K : PySem.W.Frag) : DS := (dRet (dOr (dOp gEq (dVar 1) (dVar 2)) (dOp gIn (dTup (dCons (dFz (dCB (gI2 fun i j => if j < i then j else i) (dCons (dVar 1) (dCons (dVar 2) dNil)))) (dCons (dFz (dCB (gI2 fun i j => if j > i then j else i) (dCons (dVar 1) (dCons (dVar 2) dNil)))) dNil))) (dVar 0))))
theorem rd_law_mind {K : PySem.W.Frag} : ∀ ds Q, G_law_mind K ds Q → T_law_mind K { nx := fun _ => Q .non, rt := Q } (δof N_law_mind.length ds) := by
  rintro _ Q ⟨ps, a, b, rfl, h⟩
  simp only [T_law_mind, dSeq, dIfS, dT, dTn, dTa, dTo, dOp, dVar, dC, dFz_eq, dCB, dCons, dNil, dCall, dCallB, dMeth, dMethB, dSet, dApp, dExt, dRet, dRetM, dNx, dDrop, dNeg, dAnd, dOr, dNot, dIf, dCh, dCh3, dU, dTup, dLst, dFld, dIsi, dIl, dIe, dIr1, dIr2, dIv1, dgN, dgT, putAll, dFor, dPar2, dPar3, dSetT, dLc, dYes, dSl, dNo, dSome, dRev, dNev, dSset, dCount, dIndex, dLrg1, dLrg2, dTwo, un_non, un_int, un_bl, un_str, un_lst, un_tup, un_obj, un_dct, un_scr, un_olst, un_oll, un_oobj, un_mv, un_m, un_p, pl_non, pl_int, pl_bl, pl_str, pl_lst, pl_tup, pl_obj, pl_dct, pl_scr, pl_m, pl_p, fzm_non, fzm_int, fzm_bl, fzm_lst, fzm_tup, fzm_obj, fzm_scr, fzm_olst, fzm_oll, fzm_oobj, fzm_m, frz_non, frz_int, frz_bl, frz_str, frz_lst, frz_tup, frz_obj, frz_dct, frz_scr, frz_olst, frz_oll, frz_m, fz_no, fz_tr, see_no, see_tr, asB_bl, asI_int, asgD_non, asgD_int, asgD_bl, asgD_lst, asgD_tup, asgD_obj, asgD_mv, asgD_m, it_lst, it_olst, it_scr, li_lst, li_olst, pit_lst, pit_scr, sz_lst, sz_olst, sz_oll, sz_scr, sz_tup, ad_int, ad_ll, ad_oo, ad_lo, ad_ol, mu_int, mu_l, mu_o, gI_int, gI0_int, gI2_int, ii_eqv, co_int, co_bl, co_non, co_row, co_rowO, co_nil, co_nilO, co_ps, co_p, co_p2, co_rows, ev_ll, ev_ol, ev_lo, ev_oo, ev_ln, ev_lno, ev_on, ev_ono, in_ps, in_row, gEq, gNe, gIn, gNotIn, g1, g2, gLen, gList, δof, List.getElem?_cons_zero, List.getElem?_cons_succ, List.getElem?_nil, List.set_cons_zero, List.set_cons_succ, List.map_cons, List.map_nil, List.length_cons, List.length_nil, List.replicate_succ, List.replicate_zero, List.cons_append, List.nil_append, Option.bind_some, Option.bind_none, List.all_cons, List.all_nil, List.append_nil, Nat.reduceAdd, Nat.reduceSub, true_and, and_true, Bool.and_true, Bool.true_and]
  by_cases e : a = b
  · subst e
    rw [mnd_refl] at h
    simp only [decide_true]
    exact h
  · simp only [decide_eq_false e, dSeq, dIfS, dT, dTn, dTa, dTo, dOp, dVar, dC, dFz_eq, dCB, dCons, dNil, dCall, dCallB, dMeth, dMethB, dSet, dApp, dExt, dRet, dRetM, dNx, dDrop, dNeg, dAnd, dOr, dNot, dIf, dCh, dCh3, dU, dTup, dLst, dFld, dIsi, dIl, dIe, dIr1, dIr2, dIv1, dgN, dgT, putAll, dFor, dPar2, dPar3, dSetT, dLc, dYes, dSl, dNo, dSome, dRev, dNev, dSset, dCount, dIndex, dLrg1, dLrg2, dTwo, un_non, un_int, un_bl, un_str, un_lst, un_tup, un_obj, un_dct, un_scr, un_olst, un_oll, un_oobj, un_mv, un_m, un_p, pl_non, pl_int, pl_bl, pl_str, pl_lst, pl_tup, pl_obj, pl_dct, pl_scr, pl_m, pl_p, fzm_non, fzm_int, fzm_bl, fzm_lst, fzm_tup, fzm_obj, fzm_scr, fzm_olst, fzm_oll, fzm_oobj, fzm_m, frz_non, frz_int, frz_bl, frz_str, frz_lst, frz_tup, frz_obj, frz_dct, frz_scr, frz_olst, frz_oll, frz_m, fz_no, fz_tr, see_no, see_tr, asB_bl, asI_int, asgD_non, asgD_int, asgD_bl, asgD_lst, asgD_tup, asgD_obj, asgD_mv, asgD_m, it_lst, it_olst, it_scr, li_lst, li_olst, pit_lst, pit_scr, sz_lst, sz_olst, sz_oll, sz_scr, sz_tup, ad_int, ad_ll, ad_oo, ad_lo, ad_ol, mu_int, mu_l, mu_o, gI_int, gI0_int, gI2_int, ii_eqv, co_int, co_bl, co_non, co_row, co_rowO, co_nil, co_nilO, co_ps, co_p, co_p2, co_rows, ev_ll, ev_ol, ev_lo, ev_oo, ev_ln, ev_lno, ev_on, ev_ono, in_ps, in_row, gEq, gNe, gIn, gNotIn, g1, g2, gLen, gList, δof, List.getElem?_cons_zero, List.getElem?_cons_succ, List.getElem?_nil, List.set_cons_zero, List.set_cons_succ, List.map_cons, List.map_nil, List.length_cons, List.length_nil, List.replicate_succ, List.replicate_zero, List.cons_append, List.nil_append, Option.bind_some, Option.bind_none, List.all_cons, List.all_nil, List.append_nil, Nat.reduceAdd, Nat.reduceSub, true_and, and_true, Bool.and_true, Bool.true_and]
    have z : mnd ps a b = decide (((if b < a then b else a), (if b > a then b else a)) ∈ ps) := by simp [mnd, e]
    rw [z] at h
    exact ⟨by decide, h⟩
/-- items that may be walked, ints -/
def Ints (d : D) (ns : List Int) : Prop := d.pit = some (ns.map .int) ∧ d.plain = true ∧ d.un = d ∧ d.items = some (ns.map .int) ∧ d.size = some ns.length ∧ frz d = d
theorem ints_s (ns : List Int) : Ints (.scr ns) ns := ⟨rfl, rfl, rfl, rfl, rfl, rfl⟩
theorem ints_r (ns : List Int) : Ints (rD ns) ns := ⟨rfl, rfl, rfl, rfl, by show some (ns.map D.int).length = _; rw [List.length_map], rfl⟩
def rowOf (ns : List Int) (n bY : Int) : List Int := ns.map fun c => (c.fdiv bY).fmod n
def G_law_row (_K : PySem.W.Frag) : GD := fun ds P => ∃ d ns n bY, ds = [d, .int n, .int bY] ∧ Ints d ns ∧ n ≠ 0 ∧ CDivN 0 bY ∧ ns.length ≤ 1000 ∧ P (.mv (.olst ((rowOf ns n bY).map .int)))
/-! ### law_row -/
abbrev N_law_row : List Str := ["_law_script", "_law_kinds", "_law_by", "_law_cell"]
def T_law_row_c1 (K : PySem.W.Frag) : DE := (dFz (dOp (gI (fun _ j => j ≠ 0) fun i j => .int (i.fmod j)) (dOp (gI CDivN fun i j => .int (i.fdiv j)) (dVar 3) (dVar 2)) (dVar 1)))
def T_law_row (K : PySem.W.Frag) : DS := (dRet (dLc 3 (dIl (dVar 0)) dYes (T_law_row_c1 K)))
theorem law_row_c {K : PySem.W.Frag} {d : D} {n bY : Int} {P : D → Prop} (hn : n ≠ 0) (hb : CDivN 0 bY) : ∀ (ns acc : List Int) (e3 : DV), acc.length + ns.length ≤ 1000 → P (.mv (.olst ((acc ++ rowOf ns n bY).map .int))) → compGo 3 dYes (T_law_row_c1 K) P (ns.map .int) (acc.map .int) [.tr d, .tr (.int n), .tr (.int bY), e3]
  | [], acc, e3, _, h => by
    simpa [rowOf, compGo] using h
  | c :: ns, acc, e3, hl, h => by
    rw [List.length_cons] at hl
    refine compGo_op fun N hN => ?_
    simp only [T_law_row_c1, dSeq, dIfS, dT, dTn, dTa, dTo, dOp, dVar, dC, dFz_eq, dCB, dCons, dNil, dCall, dCallB, dMeth, dMethB, dSet, dApp, dExt, dRet, dRetM, dNx, dDrop, dNeg, dAnd, dOr, dNot, dIf, dCh, dCh3, dU, dTup, dLst, dFld, dIsi, dIl, dIe, dIr1, dIr2, dIv1, dgN, dgT, putAll, dFor, dPar2, dPar3, dSetT, dLc, dYes, dSl, dNo, dSome, dRev, dNev, dSset, dCount, dIndex, dLrg1, dLrg2, dTwo, un_non, un_int, un_bl, un_str, un_lst, un_tup, un_obj, un_dct, un_scr, un_olst, un_oll, un_oobj, un_mv, un_m, un_p, pl_non, pl_int, pl_bl, pl_str, pl_lst, pl_tup, pl_obj, pl_dct, pl_scr, pl_m, pl_p, fzm_non, fzm_int, fzm_bl, fzm_lst, fzm_tup, fzm_obj, fzm_scr, fzm_olst, fzm_oll, fzm_oobj, fzm_m, frz_non, frz_int, frz_bl, frz_str, frz_lst, frz_tup, frz_obj, frz_dct, frz_scr, frz_olst, frz_oll, frz_m, fz_no, fz_tr, see_no, see_tr, asB_bl, asI_int, asgD_non, asgD_int, asgD_bl, asgD_lst, asgD_tup, asgD_obj, asgD_mv, asgD_m, it_lst, it_olst, it_scr, li_lst, li_olst, pit_lst, pit_scr, sz_lst, sz_olst, sz_oll, sz_scr, sz_tup, ad_int, ad_ll, ad_oo, ad_lo, ad_ol, mu_int, mu_l, mu_o, gI_int, gI0_int, gI2_int, ii_eqv, co_int, co_bl, co_non, co_row, co_rowO, co_nil, co_nilO, co_ps, co_p, co_p2, co_rows, ev_ll, ev_ol, ev_lo, ev_oo, ev_ln, ev_lno, ev_on, ev_ono, in_ps, in_row, gEq, gNe, gIn, gNotIn, g1, g2, gLen, gList, δof, List.getElem?_cons_zero, List.getElem?_cons_succ, List.getElem?_nil, List.set_cons_zero, List.set_cons_succ, List.map_cons, List.map_nil, List.length_cons, List.length_nil, List.replicate_succ, List.replicate_zero, List.cons_append, List.nil_append, Option.bind_some, Option.bind_none, List.all_cons, List.all_nil, List.append_nil, Nat.reduceAdd, Nat.reduceSub, true_and, and_true, Bool.and_true, Bool.true_and]
    refine ⟨hb, hn, by rw [List.length_map]; omega, ?_⟩
    rw [hN]
    have z := law_row_c (K := K) (d := d) (n := n) (bY := bY) (P := P) hn hb ns (acc ++ [(c.fdiv bY).fmod n]) e3 (by rw [List.length_append, List.length_cons, List.length_nil]; omega) (by rw [List.append_assoc]; exact h)
    rw [List.map_append] at z
    exact z
theorem rd_law_row {K : PySem.W.Frag} : ∀ ds Q, G_law_row K ds Q → T_law_row K { nx := fun _ => Q .non, rt := Q } (δof N_law_row.length ds) := by
  rintro _ Q ⟨d, ns, n, bY, rfl, ⟨h1, h2, h3, h4, h5, h6⟩, hn, hb, hl, h⟩
  simp only [T_law_row, dSeq, dIfS, dT, dTn, dTa, dTo, dOp, dVar, dC, dFz_eq, dCB, dCons, dNil, dCall, dCallB, dMeth, dMethB, dSet, dApp, dExt, dRet, dRetM, dNx, dDrop, dNeg, dAnd, dOr, dNot, dIf, dCh, dCh3, dU, dTup, dLst, dFld, dIsi, dIl, dIe, dIr1, dIr2, dIv1, dgN, dgT, putAll, dFor, dPar2, dPar3, dSetT, dLc, dYes, dSl, dNo, dSome, dRev, dNev, dSset, dCount, dIndex, dLrg1, dLrg2, dTwo, un_non, un_int, un_bl, un_str, un_lst, un_tup, un_obj, un_dct, un_scr, un_olst, un_oll, un_oobj, un_mv, un_m, un_p, pl_non, pl_int, pl_bl, pl_str, pl_lst, pl_tup, pl_obj, pl_dct, pl_scr, pl_m, pl_p, fzm_non, fzm_int, fzm_bl, fzm_lst, fzm_tup, fzm_obj, fzm_scr, fzm_olst, fzm_oll, fzm_oobj, fzm_m, frz_non, frz_int, frz_bl, frz_str, frz_lst, frz_tup, frz_obj, frz_dct, frz_scr, frz_olst, frz_oll, frz_m, fz_no, fz_tr, see_no, see_tr, asB_bl, asI_int, asgD_non, asgD_int, asgD_bl, asgD_lst, asgD_tup, asgD_obj, asgD_mv, asgD_m, it_lst, it_olst, it_scr, li_lst, li_olst, pit_lst, pit_scr, sz_lst, sz_olst, sz_oll, sz_scr, sz_tup, ad_int, ad_ll, ad_oo, ad_lo, ad_ol, mu_int, mu_l, mu_o, gI_int, gI0_int, gI2_int, ii_eqv, co_int, co_bl, co_non, co_row, co_rowO, co_nil, co_nilO, co_ps, co_p, co_p2, co_rows, ev_ll, ev_ol, ev_lo, ev_oo, ev_ln, ev_lno, ev_on, ev_ono, in_ps, in_row, gEq, gNe, gIn, gNotIn, g1, g2, gLen, gList, δof, List.getElem?_cons_zero, List.getElem?_cons_succ, List.getElem?_nil, List.set_cons_zero, List.set_cons_succ, List.map_cons, List.map_nil, List.length_cons, List.length_nil, List.replicate_succ, List.replicate_zero, List.cons_append, List.nil_append, Option.bind_some, Option.bind_none, List.all_cons, List.all_nil, List.append_nil, Nat.reduceAdd, Nat.reduceSub, true_and, and_true, Bool.and_true, Bool.true_and, h6, h3, h1]
  exact law_row_c (K := K) (d := d) hn hb ns [] _ (by simpa using hl) h
def G_law_jostled (_K : PySem.W.Frag) : GD := fun ds P => ∃ xs ps d cs, ds = [rD xs, .lst (ps.map pD), d] ∧ Ints d cs ∧ xs.length ≤ 1000 ∧ ∀ ys, Tr (mnd ps) xs ys → P (.mv (.olst (ys.map .int)))
/-! ### law_jostled -/
abbrev N_law_jostled : List Str := ["_law_row_here", "_law_pairs", "_law_script", "_law_found", "_law_cell", "_law_at"]
def T_law_jostled_f1 (K : PySem.W.Frag) : DS := (dSeq (dSet 5 (dFz (dOp (gI (fun _ j => j ≠ 0) fun i j => .int (i.fmod j)) (dOp (gI CDivN fun i j => .int (i.fdiv j)) (dVar 4) (dC (.int 5))) (dCB (gI2 fun i j => if j > i then j else i) (dCons (dC (.int 1)) (dCons (dOp (gI0 fun i j => .int (i - j)) (dCB gLen (dCons (dVar 3) dNil)) (dC (.int 1))) dNil))))))
  (dIfS (dTa (dT (dOp gLt (dOp gAdd (dVar 5) (dC (.int 1))) (dCB gLen (dCons (dVar 3) dNil)))) (dTn (dT (dCallB (G_law_mind K) (dCons (dVar 1) (dCons (dOp gIx (dVar 3) (dVar 5)) (dCons (dOp gIx (dVar 3) (dOp gAdd (dVar 5) (dC (.int 1)))) dNil))))))) (dSwap 3 (dVar 5) (dOp gAdd (dVar 5) (dC (.int 1))) (dTup (dCons (dOp gIx (dVar 3) (dOp gAdd (dVar 5) (dC (.int 1)))) (dCons (dOp gIx (dVar 3) (dVar 5)) dNil)))) dNx))
def T_law_jostled (K : PySem.W.Frag) : DS := (dSeq (dSet 3 (dCB gList (dCons (dVar 0) dNil)))
  (dSeq (dFor (dIl (dVar 2)) (dgN 4) (T_law_jostled_f1 K))
  (dRetM 3)))
theorem split_at {α : Type} {xs : List α} {p : Nat} (h : p + 1 < xs.length) : ∃ A a b B, xs = A ++ a :: b :: B ∧ A.length = p := by
  refine ⟨xs.take p, xs[p], xs[p + 1], xs.drop (p + 2), ?_, by rw [List.length_take]; omega⟩
  rw [← List.drop_eq_getElem_cons (by omega), ← List.drop_eq_getElem_cons (by omega), List.take_append_drop]
theorem at_mid {α : Type} {A B : List α} {a : α} : (A ++ a :: B)[A.length]? = some a := by
  rw [List.getElem?_append_right (Nat.le_refl _), Nat.sub_self]
  rfl
theorem at_mid1 {α : Type} {A B : List α} {a b : α} : (A ++ a :: b :: B)[A.length + 1]? = some b := by
  have e : A.length.succ - A.length = 1 := by omega
  rw [List.getElem?_append_right (Nat.le_succ _), e]
  rfl
theorem ixN_nat {n p : Nat} (h : p < n) : ixN n (p : Int) = some p := by
  unfold ixN
  rw [if_pos (by omega), if_pos (by omega)]
  rfl
theorem swap_mid {α : Type} {A B : List α} {a b : α} : ((A ++ a :: b :: B).set A.length b).set (A.length + 1) a = A ++ b :: a :: B := by
  have e : A.length.succ - A.length = 1 := by omega
  rw [List.set_append_right _ _ (Nat.le_refl _), Nat.sub_self, List.set_cons_zero, List.set_append_right _ _ (Nat.le_succ _), e]
  rfl
theorem jostle_st {K : PySem.W.Frag} {ps : List (Int × Int)} {xs : List Int} {row d : D} {c : Int} {E : EndsD} {e5 : DV} (hl : xs.length ≤ 1000) (h : ∀ ys v, Tr (mnd ps) xs ys → E.nx [.tr row, .tr (.lst (ps.map pD)), .tr d, .tr (.olst (ys.map .int)), .tr (.int c), .tr (.int v)]) :
    T_law_jostled_f1 K E [.tr row, .tr (.lst (ps.map pD)), .tr d, .tr (.olst (xs.map .int)), .tr (.int c), e5] := by
  simp only [T_law_jostled_f1, dSeq, dIfS, dT, dTn, dTa, dTo, dOp, dVar, dC, dFz_eq, dCB, dCons, dNil, dCall, dCallB, dMeth, dMethB, dSet, dApp, dExt, dRet, dRetM, dNx, dDrop, dNeg, dAnd, dOr, dNot, dIf, dCh, dCh3, dU, dTup, dLst, dFld, dIsi, dIl, dIe, dIr1, dIr2, dIv1, dgN, dgT, putAll, dFor, dPar2, dPar3, dSetT, dLc, dYes, dSl, dNo, dSome, dRev, dNev, dSset, dCount, dIndex, dLrg1, dLrg2, dTwo, un_non, un_int, un_bl, un_str, un_lst, un_tup, un_obj, un_dct, un_scr, un_olst, un_oll, un_oobj, un_mv, un_m, un_p, pl_non, pl_int, pl_bl, pl_str, pl_lst, pl_tup, pl_obj, pl_dct, pl_scr, pl_m, pl_p, fzm_non, fzm_int, fzm_bl, fzm_lst, fzm_tup, fzm_obj, fzm_scr, fzm_olst, fzm_oll, fzm_oobj, fzm_m, frz_non, frz_int, frz_bl, frz_str, frz_lst, frz_tup, frz_obj, frz_dct, frz_scr, frz_olst, frz_oll, frz_m, fz_no, fz_tr, see_no, see_tr, asB_bl, asI_int, asgD_non, asgD_int, asgD_bl, asgD_lst, asgD_tup, asgD_obj, asgD_mv, asgD_m, it_lst, it_olst, it_scr, li_lst, li_olst, pit_lst, pit_scr, sz_lst, sz_olst, sz_oll, sz_scr, sz_tup, ad_int, ad_ll, ad_oo, ad_lo, ad_ol, mu_int, mu_l, mu_o, gI_int, gI0_int, gI2_int, ii_eqv, co_int, co_bl, co_non, co_row, co_rowO, co_nil, co_nilO, co_ps, co_p, co_p2, co_rows, ev_ll, ev_ol, ev_lo, ev_oo, ev_ln, ev_lno, ev_on, ev_ono, in_ps, in_row, gEq, gNe, gIn, gNotIn, g1, g2, gLen, gList, δof, List.getElem?_cons_zero, List.getElem?_cons_succ, List.getElem?_nil, List.set_cons_zero, List.set_cons_succ, List.map_cons, List.map_nil, List.length_cons, List.length_nil, List.replicate_succ, List.replicate_zero, List.cons_append, List.nil_append, Option.bind_some, Option.bind_none, List.all_cons, List.all_nil, List.append_nil, Nat.reduceAdd, Nat.reduceSub, true_and, and_true, Bool.and_true, Bool.true_and]
  refine ⟨⟨by decide, by decide⟩, by split <;> omega, ?_⟩
  generalize hv : (c.fdiv 5).fmod _ = v
  have v0 : 0 ≤ v := by
    rw [← hv]
    exact Int.fmod_nonneg_of_pos _ (by split <;> omega)
  obtain ⟨p, rfl⟩ := Int.eq_ofNat_of_zero_le v0
  simp only [List.length_map]
  by_cases hp : p + 1 < xs.length
  · rw [decide_eq_true (by omega)]
    obtain ⟨A, a, b, B, rfl, rfl⟩ := split_at hp
    have e1 : ((A ++ a :: b :: B).map D.int)[A.length]? = some (.int a) := by rw [List.getElem?_map, at_mid]; rfl
    have e2 : ((A ++ a :: b :: B).map D.int)[A.length + 1]? = some (.int b) := by rw [List.getElem?_map, at_mid1]; rfl
    have q : ((A.length : Int) + 1) = ((A.length + 1 : Nat) : Int) := by omega
    simp only [q]
    refine ix_olst ⟨_, at_nat e1, ?_⟩
    simp only [dSeq, dIfS, dT, dTn, dTa, dTo, dOp, dVar, dC, dFz_eq, dCB, dCons, dNil, dCall, dCallB, dMeth, dMethB, dSet, dApp, dExt, dRet, dRetM, dNx, dDrop, dNeg, dAnd, dOr, dNot, dIf, dCh, dCh3, dU, dTup, dLst, dFld, dIsi, dIl, dIe, dIr1, dIr2, dIv1, dgN, dgT, putAll, dFor, dPar2, dPar3, dSetT, dLc, dYes, dSl, dNo, dSome, dRev, dNev, dSset, dCount, dIndex, dLrg1, dLrg2, dTwo, un_non, un_int, un_bl, un_str, un_lst, un_tup, un_obj, un_dct, un_scr, un_olst, un_oll, un_oobj, un_mv, un_m, un_p, pl_non, pl_int, pl_bl, pl_str, pl_lst, pl_tup, pl_obj, pl_dct, pl_scr, pl_m, pl_p, fzm_non, fzm_int, fzm_bl, fzm_lst, fzm_tup, fzm_obj, fzm_scr, fzm_olst, fzm_oll, fzm_oobj, fzm_m, frz_non, frz_int, frz_bl, frz_str, frz_lst, frz_tup, frz_obj, frz_dct, frz_scr, frz_olst, frz_oll, frz_m, fz_no, fz_tr, see_no, see_tr, asB_bl, asI_int, asgD_non, asgD_int, asgD_bl, asgD_lst, asgD_tup, asgD_obj, asgD_mv, asgD_m, it_lst, it_olst, it_scr, li_lst, li_olst, pit_lst, pit_scr, sz_lst, sz_olst, sz_oll, sz_scr, sz_tup, ad_int, ad_ll, ad_oo, ad_lo, ad_ol, mu_int, mu_l, mu_o, gI_int, gI0_int, gI2_int, ii_eqv, co_int, co_bl, co_non, co_row, co_rowO, co_nil, co_nilO, co_ps, co_p, co_p2, co_rows, ev_ll, ev_ol, ev_lo, ev_oo, ev_ln, ev_lno, ev_on, ev_ono, in_ps, in_row, gEq, gNe, gIn, gNotIn, g1, g2, gLen, gList, δof, List.getElem?_cons_zero, List.getElem?_cons_succ, List.getElem?_nil, List.set_cons_zero, List.set_cons_succ, List.map_cons, List.map_nil, List.length_cons, List.length_nil, List.replicate_succ, List.replicate_zero, List.cons_append, List.nil_append, Option.bind_some, Option.bind_none, List.all_cons, List.all_nil, List.append_nil, Nat.reduceAdd, Nat.reduceSub, true_and, and_true, Bool.and_true, Bool.true_and]
    refine ix_olst ⟨_, at_nat e2, ?_⟩
    simp only [dSeq, dIfS, dT, dTn, dTa, dTo, dOp, dVar, dC, dFz_eq, dCB, dCons, dNil, dCall, dCallB, dMeth, dMethB, dSet, dApp, dExt, dRet, dRetM, dNx, dDrop, dNeg, dAnd, dOr, dNot, dIf, dCh, dCh3, dU, dTup, dLst, dFld, dIsi, dIl, dIe, dIr1, dIr2, dIv1, dgN, dgT, putAll, dFor, dPar2, dPar3, dSetT, dLc, dYes, dSl, dNo, dSome, dRev, dNev, dSset, dCount, dIndex, dLrg1, dLrg2, dTwo, un_non, un_int, un_bl, un_str, un_lst, un_tup, un_obj, un_dct, un_scr, un_olst, un_oll, un_oobj, un_mv, un_m, un_p, pl_non, pl_int, pl_bl, pl_str, pl_lst, pl_tup, pl_obj, pl_dct, pl_scr, pl_m, pl_p, fzm_non, fzm_int, fzm_bl, fzm_lst, fzm_tup, fzm_obj, fzm_scr, fzm_olst, fzm_oll, fzm_oobj, fzm_m, frz_non, frz_int, frz_bl, frz_str, frz_lst, frz_tup, frz_obj, frz_dct, frz_scr, frz_olst, frz_oll, frz_m, fz_no, fz_tr, see_no, see_tr, asB_bl, asI_int, asgD_non, asgD_int, asgD_bl, asgD_lst, asgD_tup, asgD_obj, asgD_mv, asgD_m, it_lst, it_olst, it_scr, li_lst, li_olst, pit_lst, pit_scr, sz_lst, sz_olst, sz_oll, sz_scr, sz_tup, ad_int, ad_ll, ad_oo, ad_lo, ad_ol, mu_int, mu_l, mu_o, gI_int, gI0_int, gI2_int, ii_eqv, co_int, co_bl, co_non, co_row, co_rowO, co_nil, co_nilO, co_ps, co_p, co_p2, co_rows, ev_ll, ev_ol, ev_lo, ev_oo, ev_ln, ev_lno, ev_on, ev_ono, in_ps, in_row, gEq, gNe, gIn, gNotIn, g1, g2, gLen, gList, δof, List.getElem?_cons_zero, List.getElem?_cons_succ, List.getElem?_nil, List.set_cons_zero, List.set_cons_succ, List.map_cons, List.map_nil, List.length_cons, List.length_nil, List.replicate_succ, List.replicate_zero, List.cons_append, List.nil_append, Option.bind_some, Option.bind_none, List.all_cons, List.all_nil, List.append_nil, Nat.reduceAdd, Nat.reduceSub, true_and, and_true, Bool.and_true, Bool.true_and]
    refine ⟨ps, a, b, rfl, rfl, ?_⟩
    cases hm : mnd ps a b with
    | true =>
      simp only [dSeq, dIfS, dT, dTn, dTa, dTo, dOp, dVar, dC, dFz_eq, dCB, dCons, dNil, dCall, dCallB, dMeth, dMethB, dSet, dApp, dExt, dRet, dRetM, dNx, dDrop, dNeg, dAnd, dOr, dNot, dIf, dCh, dCh3, dU, dTup, dLst, dFld, dIsi, dIl, dIe, dIr1, dIr2, dIv1, dgN, dgT, putAll, dFor, dPar2, dPar3, dSetT, dLc, dYes, dSl, dNo, dSome, dRev, dNev, dSset, dCount, dIndex, dLrg1, dLrg2, dTwo, un_non, un_int, un_bl, un_str, un_lst, un_tup, un_obj, un_dct, un_scr, un_olst, un_oll, un_oobj, un_mv, un_m, un_p, pl_non, pl_int, pl_bl, pl_str, pl_lst, pl_tup, pl_obj, pl_dct, pl_scr, pl_m, pl_p, fzm_non, fzm_int, fzm_bl, fzm_lst, fzm_tup, fzm_obj, fzm_scr, fzm_olst, fzm_oll, fzm_oobj, fzm_m, frz_non, frz_int, frz_bl, frz_str, frz_lst, frz_tup, frz_obj, frz_dct, frz_scr, frz_olst, frz_oll, frz_m, fz_no, fz_tr, see_no, see_tr, asB_bl, asI_int, asgD_non, asgD_int, asgD_bl, asgD_lst, asgD_tup, asgD_obj, asgD_mv, asgD_m, it_lst, it_olst, it_scr, li_lst, li_olst, pit_lst, pit_scr, sz_lst, sz_olst, sz_oll, sz_scr, sz_tup, ad_int, ad_ll, ad_oo, ad_lo, ad_ol, mu_int, mu_l, mu_o, gI_int, gI0_int, gI2_int, ii_eqv, co_int, co_bl, co_non, co_row, co_rowO, co_nil, co_nilO, co_ps, co_p, co_p2, co_rows, ev_ll, ev_ol, ev_lo, ev_oo, ev_ln, ev_lno, ev_on, ev_ono, in_ps, in_row, gEq, gNe, gIn, gNotIn, g1, g2, gLen, gList, δof, List.getElem?_cons_zero, List.getElem?_cons_succ, List.getElem?_nil, List.set_cons_zero, List.set_cons_succ, List.map_cons, List.map_nil, List.length_cons, List.length_nil, List.replicate_succ, List.replicate_zero, List.cons_append, List.nil_append, Option.bind_some, Option.bind_none, List.all_cons, List.all_nil, List.append_nil, Nat.reduceAdd, Nat.reduceSub, true_and, and_true, Bool.and_true, Bool.true_and, Bool.not_true]
      exact h _ _ (.rfl _)
    | false =>
      simp only [dSeq, dIfS, dT, dTn, dTa, dTo, dOp, dVar, dC, dFz_eq, dCB, dCons, dNil, dCall, dCallB, dMeth, dMethB, dSet, dApp, dExt, dRet, dRetM, dNx, dDrop, dNeg, dAnd, dOr, dNot, dIf, dCh, dCh3, dU, dTup, dLst, dFld, dIsi, dIl, dIe, dIr1, dIr2, dIv1, dgN, dgT, putAll, dFor, dPar2, dPar3, dSetT, dLc, dYes, dSl, dNo, dSome, dRev, dNev, dSset, dCount, dIndex, dLrg1, dLrg2, dTwo, un_non, un_int, un_bl, un_str, un_lst, un_tup, un_obj, un_dct, un_scr, un_olst, un_oll, un_oobj, un_mv, un_m, un_p, pl_non, pl_int, pl_bl, pl_str, pl_lst, pl_tup, pl_obj, pl_dct, pl_scr, pl_m, pl_p, fzm_non, fzm_int, fzm_bl, fzm_lst, fzm_tup, fzm_obj, fzm_scr, fzm_olst, fzm_oll, fzm_oobj, fzm_m, frz_non, frz_int, frz_bl, frz_str, frz_lst, frz_tup, frz_obj, frz_dct, frz_scr, frz_olst, frz_oll, frz_m, fz_no, fz_tr, see_no, see_tr, asB_bl, asI_int, asgD_non, asgD_int, asgD_bl, asgD_lst, asgD_tup, asgD_obj, asgD_mv, asgD_m, it_lst, it_olst, it_scr, li_lst, li_olst, pit_lst, pit_scr, sz_lst, sz_olst, sz_oll, sz_scr, sz_tup, ad_int, ad_ll, ad_oo, ad_lo, ad_ol, mu_int, mu_l, mu_o, gI_int, gI0_int, gI2_int, ii_eqv, co_int, co_bl, co_non, co_row, co_rowO, co_nil, co_nilO, co_ps, co_p, co_p2, co_rows, ev_ll, ev_ol, ev_lo, ev_oo, ev_ln, ev_lno, ev_on, ev_ono, in_ps, in_row, gEq, gNe, gIn, gNotIn, g1, g2, gLen, gList, δof, List.getElem?_cons_zero, List.getElem?_cons_succ, List.getElem?_nil, List.set_cons_zero, List.set_cons_succ, List.map_cons, List.map_nil, List.length_cons, List.length_nil, List.replicate_succ, List.replicate_zero, List.cons_append, List.nil_append, Option.bind_some, Option.bind_none, List.all_cons, List.all_nil, List.append_nil, Nat.reduceAdd, Nat.reduceSub, true_and, and_true, Bool.and_true, Bool.true_and, Bool.not_false, dSwap, q]
      refine ix_olst ⟨_, at_nat e2, ?_⟩
      simp only [dSeq, dIfS, dT, dTn, dTa, dTo, dOp, dVar, dC, dFz_eq, dCB, dCons, dNil, dCall, dCallB, dMeth, dMethB, dSet, dApp, dExt, dRet, dRetM, dNx, dDrop, dNeg, dAnd, dOr, dNot, dIf, dCh, dCh3, dU, dTup, dLst, dFld, dIsi, dIl, dIe, dIr1, dIr2, dIv1, dgN, dgT, putAll, dFor, dPar2, dPar3, dSetT, dLc, dYes, dSl, dNo, dSome, dRev, dNev, dSset, dCount, dIndex, dLrg1, dLrg2, dTwo, un_non, un_int, un_bl, un_str, un_lst, un_tup, un_obj, un_dct, un_scr, un_olst, un_oll, un_oobj, un_mv, un_m, un_p, pl_non, pl_int, pl_bl, pl_str, pl_lst, pl_tup, pl_obj, pl_dct, pl_scr, pl_m, pl_p, fzm_non, fzm_int, fzm_bl, fzm_lst, fzm_tup, fzm_obj, fzm_scr, fzm_olst, fzm_oll, fzm_oobj, fzm_m, frz_non, frz_int, frz_bl, frz_str, frz_lst, frz_tup, frz_obj, frz_dct, frz_scr, frz_olst, frz_oll, frz_m, fz_no, fz_tr, see_no, see_tr, asB_bl, asI_int, asgD_non, asgD_int, asgD_bl, asgD_lst, asgD_tup, asgD_obj, asgD_mv, asgD_m, it_lst, it_olst, it_scr, li_lst, li_olst, pit_lst, pit_scr, sz_lst, sz_olst, sz_oll, sz_scr, sz_tup, ad_int, ad_ll, ad_oo, ad_lo, ad_ol, mu_int, mu_l, mu_o, gI_int, gI0_int, gI2_int, ii_eqv, co_int, co_bl, co_non, co_row, co_rowO, co_nil, co_nilO, co_ps, co_p, co_p2, co_rows, ev_ll, ev_ol, ev_lo, ev_oo, ev_ln, ev_lno, ev_on, ev_ono, in_ps, in_row, gEq, gNe, gIn, gNotIn, g1, g2, gLen, gList, δof, List.getElem?_cons_zero, List.getElem?_cons_succ, List.getElem?_nil, List.set_cons_zero, List.set_cons_succ, List.map_cons, List.map_nil, List.length_cons, List.length_nil, List.replicate_succ, List.replicate_zero, List.cons_append, List.nil_append, Option.bind_some, Option.bind_none, List.all_cons, List.all_nil, List.append_nil, Nat.reduceAdd, Nat.reduceSub, true_and, and_true, Bool.and_true, Bool.true_and]
      refine ix_olst ⟨_, at_nat e1, ?_⟩
      simp only [dSeq, dIfS, dT, dTn, dTa, dTo, dOp, dVar, dC, dFz_eq, dCB, dCons, dNil, dCall, dCallB, dMeth, dMethB, dSet, dApp, dExt, dRet, dRetM, dNx, dDrop, dNeg, dAnd, dOr, dNot, dIf, dCh, dCh3, dU, dTup, dLst, dFld, dIsi, dIl, dIe, dIr1, dIr2, dIv1, dgN, dgT, putAll, dFor, dPar2, dPar3, dSetT, dLc, dYes, dSl, dNo, dSome, dRev, dNev, dSset, dCount, dIndex, dLrg1, dLrg2, dTwo, un_non, un_int, un_bl, un_str, un_lst, un_tup, un_obj, un_dct, un_scr, un_olst, un_oll, un_oobj, un_mv, un_m, un_p, pl_non, pl_int, pl_bl, pl_str, pl_lst, pl_tup, pl_obj, pl_dct, pl_scr, pl_m, pl_p, fzm_non, fzm_int, fzm_bl, fzm_lst, fzm_tup, fzm_obj, fzm_scr, fzm_olst, fzm_oll, fzm_oobj, fzm_m, frz_non, frz_int, frz_bl, frz_str, frz_lst, frz_tup, frz_obj, frz_dct, frz_scr, frz_olst, frz_oll, frz_m, fz_no, fz_tr, see_no, see_tr, asB_bl, asI_int, asgD_non, asgD_int, asgD_bl, asgD_lst, asgD_tup, asgD_obj, asgD_mv, asgD_m, it_lst, it_olst, it_scr, li_lst, li_olst, pit_lst, pit_scr, sz_lst, sz_olst, sz_oll, sz_scr, sz_tup, ad_int, ad_ll, ad_oo, ad_lo, ad_ol, mu_int, mu_l, mu_o, gI_int, gI0_int, gI2_int, ii_eqv, co_int, co_bl, co_non, co_row, co_rowO, co_nil, co_nilO, co_ps, co_p, co_p2, co_rows, ev_ll, ev_ol, ev_lo, ev_oo, ev_ln, ev_lno, ev_on, ev_ono, in_ps, in_row, gEq, gNe, gIn, gNotIn, g1, g2, gLen, gList, δof, List.getElem?_cons_zero, List.getElem?_cons_succ, List.getElem?_nil, List.set_cons_zero, List.set_cons_succ, List.map_cons, List.map_nil, List.length_cons, List.length_nil, List.replicate_succ, List.replicate_zero, List.cons_append, List.nil_append, Option.bind_some, Option.bind_none, List.all_cons, List.all_nil, List.append_nil, Nat.reduceAdd, Nat.reduceSub, true_and, and_true, Bool.and_true, Bool.true_and, setAt, q]
      refine ⟨by decide, ?_⟩
      rw [ixN_nat (by rw [List.length_map]; omega)]
      simp only [dSeq, dIfS, dT, dTn, dTa, dTo, dOp, dVar, dC, dFz_eq, dCB, dCons, dNil, dCall, dCallB, dMeth, dMethB, dSet, dApp, dExt, dRet, dRetM, dNx, dDrop, dNeg, dAnd, dOr, dNot, dIf, dCh, dCh3, dU, dTup, dLst, dFld, dIsi, dIl, dIe, dIr1, dIr2, dIv1, dgN, dgT, putAll, dFor, dPar2, dPar3, dSetT, dLc, dYes, dSl, dNo, dSome, dRev, dNev, dSset, dCount, dIndex, dLrg1, dLrg2, dTwo, un_non, un_int, un_bl, un_str, un_lst, un_tup, un_obj, un_dct, un_scr, un_olst, un_oll, un_oobj, un_mv, un_m, un_p, pl_non, pl_int, pl_bl, pl_str, pl_lst, pl_tup, pl_obj, pl_dct, pl_scr, pl_m, pl_p, fzm_non, fzm_int, fzm_bl, fzm_lst, fzm_tup, fzm_obj, fzm_scr, fzm_olst, fzm_oll, fzm_oobj, fzm_m, frz_non, frz_int, frz_bl, frz_str, frz_lst, frz_tup, frz_obj, frz_dct, frz_scr, frz_olst, frz_oll, frz_m, fz_no, fz_tr, see_no, see_tr, asB_bl, asI_int, asgD_non, asgD_int, asgD_bl, asgD_lst, asgD_tup, asgD_obj, asgD_mv, asgD_m, it_lst, it_olst, it_scr, li_lst, li_olst, pit_lst, pit_scr, sz_lst, sz_olst, sz_oll, sz_scr, sz_tup, ad_int, ad_ll, ad_oo, ad_lo, ad_ol, mu_int, mu_l, mu_o, gI_int, gI0_int, gI2_int, ii_eqv, co_int, co_bl, co_non, co_row, co_rowO, co_nil, co_nilO, co_ps, co_p, co_p2, co_rows, ev_ll, ev_ol, ev_lo, ev_oo, ev_ln, ev_lno, ev_on, ev_ono, in_ps, in_row, gEq, gNe, gIn, gNotIn, g1, g2, gLen, gList, δof, List.getElem?_cons_zero, List.getElem?_cons_succ, List.getElem?_nil, List.set_cons_zero, List.set_cons_succ, List.map_cons, List.map_nil, List.length_cons, List.length_nil, List.replicate_succ, List.replicate_zero, List.cons_append, List.nil_append, Option.bind_some, Option.bind_none, List.all_cons, List.all_nil, List.append_nil, Nat.reduceAdd, Nat.reduceSub, true_and, and_true, Bool.and_true, Bool.true_and]
      rw [ixN_nat (by rw [List.length_set, List.length_map]; omega)]
      simp only [dSeq, dIfS, dT, dTn, dTa, dTo, dOp, dVar, dC, dFz_eq, dCB, dCons, dNil, dCall, dCallB, dMeth, dMethB, dSet, dApp, dExt, dRet, dRetM, dNx, dDrop, dNeg, dAnd, dOr, dNot, dIf, dCh, dCh3, dU, dTup, dLst, dFld, dIsi, dIl, dIe, dIr1, dIr2, dIv1, dgN, dgT, putAll, dFor, dPar2, dPar3, dSetT, dLc, dYes, dSl, dNo, dSome, dRev, dNev, dSset, dCount, dIndex, dLrg1, dLrg2, dTwo, un_non, un_int, un_bl, un_str, un_lst, un_tup, un_obj, un_dct, un_scr, un_olst, un_oll, un_oobj, un_mv, un_m, un_p, pl_non, pl_int, pl_bl, pl_str, pl_lst, pl_tup, pl_obj, pl_dct, pl_scr, pl_m, pl_p, fzm_non, fzm_int, fzm_bl, fzm_lst, fzm_tup, fzm_obj, fzm_scr, fzm_olst, fzm_oll, fzm_oobj, fzm_m, frz_non, frz_int, frz_bl, frz_str, frz_lst, frz_tup, frz_obj, frz_dct, frz_scr, frz_olst, frz_oll, frz_m, fz_no, fz_tr, see_no, see_tr, asB_bl, asI_int, asgD_non, asgD_int, asgD_bl, asgD_lst, asgD_tup, asgD_obj, asgD_mv, asgD_m, it_lst, it_olst, it_scr, li_lst, li_olst, pit_lst, pit_scr, sz_lst, sz_olst, sz_oll, sz_scr, sz_tup, ad_int, ad_ll, ad_oo, ad_lo, ad_ol, mu_int, mu_l, mu_o, gI_int, gI0_int, gI2_int, ii_eqv, co_int, co_bl, co_non, co_row, co_rowO, co_nil, co_nilO, co_ps, co_p, co_p2, co_rows, ev_ll, ev_ol, ev_lo, ev_oo, ev_ln, ev_lno, ev_on, ev_ono, in_ps, in_row, gEq, gNe, gIn, gNotIn, g1, g2, gLen, gList, δof, List.getElem?_cons_zero, List.getElem?_cons_succ, List.getElem?_nil, List.set_cons_zero, List.set_cons_succ, List.map_cons, List.map_nil, List.length_cons, List.length_nil, List.replicate_succ, List.replicate_zero, List.cons_append, List.nil_append, Option.bind_some, Option.bind_none, List.all_cons, List.all_nil, List.append_nil, Nat.reduceAdd, Nat.reduceSub, true_and, and_true, Bool.and_true, Bool.true_and]
      have z := h _ (A.length : Int) (Tr.one (m := mnd ps) (A := A) (B := B) hm)
      rw [← swap_mid, List.map_set, List.map_set] at z
      exact z
  · rw [decide_eq_false (by omega)]
    exact h _ _ (.rfl _)
theorem jostle_f {K : PySem.W.Frag} {ps : List (Int × Int)} {row d : D} {E : EndsD} {xs : List Int} (h : ∀ ys e4 e5, Tr (mnd ps) xs ys → E.nx [.tr row, .tr (.lst (ps.map pD)), .tr d, .tr (.olst (ys.map .int)), e4, e5]) : ∀ (cs : List Int) (ys : List Int) (e4 e5 : DV), ys.length ≤ 1000 → Tr (mnd ps) xs ys →
    forGo (dgN 4) (T_law_jostled_f1 K) E (cs.map .int) [.tr row, .tr (.lst (ps.map pD)), .tr d, .tr (.olst (ys.map .int)), e4, e5]
  | [], ys, e4, e5, hl, ht => h ys e4 e5 ht
  | c :: cs, ys, e4, e5, hl, ht => by
    refine forGo_op fun N hN => ?_
    simp only [dSeq, dIfS, dT, dTn, dTa, dTo, dOp, dVar, dC, dFz_eq, dCB, dCons, dNil, dCall, dCallB, dMeth, dMethB, dSet, dApp, dExt, dRet, dRetM, dNx, dDrop, dNeg, dAnd, dOr, dNot, dIf, dCh, dCh3, dU, dTup, dLst, dFld, dIsi, dIl, dIe, dIr1, dIr2, dIv1, dgN, dgT, putAll, dFor, dPar2, dPar3, dSetT, dLc, dYes, dSl, dNo, dSome, dRev, dNev, dSset, dCount, dIndex, dLrg1, dLrg2, dTwo, un_non, un_int, un_bl, un_str, un_lst, un_tup, un_obj, un_dct, un_scr, un_olst, un_oll, un_oobj, un_mv, un_m, un_p, pl_non, pl_int, pl_bl, pl_str, pl_lst, pl_tup, pl_obj, pl_dct, pl_scr, pl_m, pl_p, fzm_non, fzm_int, fzm_bl, fzm_lst, fzm_tup, fzm_obj, fzm_scr, fzm_olst, fzm_oll, fzm_oobj, fzm_m, frz_non, frz_int, frz_bl, frz_str, frz_lst, frz_tup, frz_obj, frz_dct, frz_scr, frz_olst, frz_oll, frz_m, fz_no, fz_tr, see_no, see_tr, asB_bl, asI_int, asgD_non, asgD_int, asgD_bl, asgD_lst, asgD_tup, asgD_obj, asgD_mv, asgD_m, it_lst, it_olst, it_scr, li_lst, li_olst, pit_lst, pit_scr, sz_lst, sz_olst, sz_oll, sz_scr, sz_tup, ad_int, ad_ll, ad_oo, ad_lo, ad_ol, mu_int, mu_l, mu_o, gI_int, gI0_int, gI2_int, ii_eqv, co_int, co_bl, co_non, co_row, co_rowO, co_nil, co_nilO, co_ps, co_p, co_p2, co_rows, ev_ll, ev_ol, ev_lo, ev_oo, ev_ln, ev_lno, ev_on, ev_ono, in_ps, in_row, gEq, gNe, gIn, gNotIn, g1, g2, gLen, gList, δof, List.getElem?_cons_zero, List.getElem?_cons_succ, List.getElem?_nil, List.set_cons_zero, List.set_cons_succ, List.map_cons, List.map_nil, List.length_cons, List.length_nil, List.replicate_succ, List.replicate_zero, List.cons_append, List.nil_append, Option.bind_some, Option.bind_none, List.all_cons, List.all_nil, List.append_nil, Nat.reduceAdd, Nat.reduceSub, true_and, and_true, Bool.and_true, Bool.true_and]
    refine jostle_st (K := K) hl fun zs v hz => ?_
    rw [hN]
    exact jostle_f h cs zs _ _ (by rw [← hz.len]; exact hl) (ht.trans hz)
theorem rd_law_jostled {K : PySem.W.Frag} : ∀ ds Q, G_law_jostled K ds Q → T_law_jostled K { nx := fun _ => Q .non, rt := Q } (δof N_law_jostled.length ds) := by
  rintro _ Q ⟨xs, ps, d, cs, rfl, ⟨h1, h2, h3, h4, h5, h6⟩, hl, h⟩
  simp only [T_law_jostled, rD, dSeq, dIfS, dT, dTn, dTa, dTo, dOp, dVar, dC, dFz_eq, dCB, dCons, dNil, dCall, dCallB, dMeth, dMethB, dSet, dApp, dExt, dRet, dRetM, dNx, dDrop, dNeg, dAnd, dOr, dNot, dIf, dCh, dCh3, dU, dTup, dLst, dFld, dIsi, dIl, dIe, dIr1, dIr2, dIv1, dgN, dgT, putAll, dFor, dPar2, dPar3, dSetT, dLc, dYes, dSl, dNo, dSome, dRev, dNev, dSset, dCount, dIndex, dLrg1, dLrg2, dTwo, un_non, un_int, un_bl, un_str, un_lst, un_tup, un_obj, un_dct, un_scr, un_olst, un_oll, un_oobj, un_mv, un_m, un_p, pl_non, pl_int, pl_bl, pl_str, pl_lst, pl_tup, pl_obj, pl_dct, pl_scr, pl_m, pl_p, fzm_non, fzm_int, fzm_bl, fzm_lst, fzm_tup, fzm_obj, fzm_scr, fzm_olst, fzm_oll, fzm_oobj, fzm_m, frz_non, frz_int, frz_bl, frz_str, frz_lst, frz_tup, frz_obj, frz_dct, frz_scr, frz_olst, frz_oll, frz_m, fz_no, fz_tr, see_no, see_tr, asB_bl, asI_int, asgD_non, asgD_int, asgD_bl, asgD_lst, asgD_tup, asgD_obj, asgD_mv, asgD_m, it_lst, it_olst, it_scr, li_lst, li_olst, pit_lst, pit_scr, sz_lst, sz_olst, sz_oll, sz_scr, sz_tup, ad_int, ad_ll, ad_oo, ad_lo, ad_ol, mu_int, mu_l, mu_o, gI_int, gI0_int, gI2_int, ii_eqv, co_int, co_bl, co_non, co_row, co_rowO, co_nil, co_nilO, co_ps, co_p, co_p2, co_rows, ev_ll, ev_ol, ev_lo, ev_oo, ev_ln, ev_lno, ev_on, ev_ono, in_ps, in_row, gEq, gNe, gIn, gNotIn, g1, g2, gLen, gList, δof, List.getElem?_cons_zero, List.getElem?_cons_succ, List.getElem?_nil, List.set_cons_zero, List.set_cons_succ, List.map_cons, List.map_nil, List.length_cons, List.length_nil, List.replicate_succ, List.replicate_zero, List.cons_append, List.nil_append, Option.bind_some, Option.bind_none, List.all_cons, List.all_nil, List.append_nil, Nat.reduceAdd, Nat.reduceSub, true_and, and_true, Bool.and_true, Bool.true_and, h3, h1]
  refine jostle_f (K := K) (fun ys e4 e5 ht => ?_) cs xs _ _ hl (.rfl _)
  simp only [dSeq, dIfS, dT, dTn, dTa, dTo, dOp, dVar, dC, dFz_eq, dCB, dCons, dNil, dCall, dCallB, dMeth, dMethB, dSet, dApp, dExt, dRet, dRetM, dNx, dDrop, dNeg, dAnd, dOr, dNot, dIf, dCh, dCh3, dU, dTup, dLst, dFld, dIsi, dIl, dIe, dIr1, dIr2, dIv1, dgN, dgT, putAll, dFor, dPar2, dPar3, dSetT, dLc, dYes, dSl, dNo, dSome, dRev, dNev, dSset, dCount, dIndex, dLrg1, dLrg2, dTwo, un_non, un_int, un_bl, un_str, un_lst, un_tup, un_obj, un_dct, un_scr, un_olst, un_oll, un_oobj, un_mv, un_m, un_p, pl_non, pl_int, pl_bl, pl_str, pl_lst, pl_tup, pl_obj, pl_dct, pl_scr, pl_m, pl_p, fzm_non, fzm_int, fzm_bl, fzm_lst, fzm_tup, fzm_obj, fzm_scr, fzm_olst, fzm_oll, fzm_oobj, fzm_m, frz_non, frz_int, frz_bl, frz_str, frz_lst, frz_tup, frz_obj, frz_dct, frz_scr, frz_olst, frz_oll, frz_m, fz_no, fz_tr, see_no, see_tr, asB_bl, asI_int, asgD_non, asgD_int, asgD_bl, asgD_lst, asgD_tup, asgD_obj, asgD_mv, asgD_m, it_lst, it_olst, it_scr, li_lst, li_olst, pit_lst, pit_scr, sz_lst, sz_olst, sz_oll, sz_scr, sz_tup, ad_int, ad_ll, ad_oo, ad_lo, ad_ol, mu_int, mu_l, mu_o, gI_int, gI0_int, gI2_int, ii_eqv, co_int, co_bl, co_non, co_row, co_rowO, co_nil, co_nilO, co_ps, co_p, co_p2, co_rows, ev_ll, ev_ol, ev_lo, ev_oo, ev_ln, ev_lno, ev_on, ev_ono, in_ps, in_row, gEq, gNe, gIn, gNotIn, g1, g2, gLen, gList, δof, List.getElem?_cons_zero, List.getElem?_cons_succ, List.getElem?_nil, List.set_cons_zero, List.set_cons_succ, List.map_cons, List.map_nil, List.length_cons, List.length_nil, List.replicate_succ, List.replicate_zero, List.cons_append, List.nil_append, Option.bind_some, Option.bind_none, List.all_cons, List.all_nil, List.append_nil, Nat.reduceAdd, Nat.reduceSub, true_and, and_true, Bool.and_true, Bool.true_and]
  exact h ys ht
theorem kinds_row {ns : List Int} {n bY : Int} (h : 1 ≤ n) : Kinds n (rowOf ns n bY) := fun x hx => by
  obtain ⟨c, _, rfl⟩ := List.mem_map.mp hx
  exact ⟨Int.fmod_nonneg_of_pos _ (by omega), Int.fmod_lt_of_pos _ (by omega)⟩
theorem row_len {ns : List Int} {n bY : Int} : (rowOf ns n bY).length = ns.length := List.length_map _
theorem Kinds.tr {m : Int → Int → Bool} {n : Int} {xs ys : List Int} (h : Kinds n xs) (t : Tr m xs ys) : Kinds n ys := fun x hx => h x (t.perm.mem_iff.mpr hx)
end J
/-! P3: kinds and pairs by a script -/
namespace J
open PySem PySem.Spec PyProof.Rows L2
def G_law_minds (_K : PySem.W.Frag) : GD := fun ds P => ∃ ns, ds = [.scr ns] ∧ ns.length ≤ 63 ∧ ∀ n ps, 1 ≤ n → n ≤ 64 → PairsOk n ps → P (.tup [.int n, .lst (ps.map pD)])
/-! ### law_minds -/
abbrev N_law_minds : List Str := ["_law_script", "_law_kinds", "_law_code", "_law_pairs", "_law_cell", "_law_one", "_law_other", "_law_pair"]
def T_law_minds_f1 (K : PySem.W.Frag) : DS := (dSeq (dPar2 5 6 (dFz (dOp (gI (fun _ j => j ≠ 0) fun i j => .int (i.fmod j)) (dOp (gI CDivN fun i j => .int (i.fdiv j)) (dVar 4) (dC (.int 90))) (dVar 1))) (dFz (dOp (gI (fun _ j => j ≠ 0) fun i j => .int (i.fmod j)) (dOp (gI CDivN fun i j => .int (i.fdiv j)) (dOp (gI CDivN fun i j => .int (i.fdiv j)) (dVar 4) (dC (.int 90))) (dVar 1)) (dVar 1))))
  (dApp 3 (dTup (dCons (dFz (dCB (gI2 fun i j => if j < i then j else i) (dCons (dVar 5) (dCons (dVar 6) dNil)))) (dCons (dFz (dCB (gI2 fun i j => if j > i then j else i) (dCons (dVar 5) (dCons (dVar 6) dNil)))) dNil)))))
def T_law_minds_c2 (K : PySem.W.Frag) : DE := (dVar 7)
def T_law_minds_c2t (K : PySem.W.Frag) : DT := (dT (dOp gLt (dOp gIx (dVar 7) (dC (.int 0))) (dOp gIx (dVar 7) (dC (.int 1)))))
def T_law_minds_f3 (K : PySem.W.Frag) : DS := (dSeq (dIfS (dT (dOp gLt (dOp (gI (fun _ j => j ≠ 0) fun i j => .int (i.fmod j)) (dVar 2) (dC (.int 5))) (dC (.int 2)))) (dApp 3 (dTup (dCons (dVar 5) (dCons (dVar 6) dNil)))) dNx)
  (dSet 2 (dFz (dOp gAdd (dOp (gI CDivN fun i j => .int (i.fdiv j)) (dVar 2) (dC (.int 3))) (dOp gMul (dC (.int 7)) (dVar 6))))))
def T_law_minds_f4 (K : PySem.W.Frag) : DS := (dFor (dIr2 (dCons (dOp gAdd (dVar 5) (dC (.int 1))) (dCons (dVar 1) dNil))) (dgN 6) (T_law_minds_f3 K))
def T_law_minds (K : PySem.W.Frag) : DS := (dSeq (dPar3 1 2 3 (dFz (dOp gAdd (dC (.int 1)) (dOp (gI (fun _ j => j ≠ 0) fun i j => .int (i.fmod j)) (dCB gSum (dCons (dVar 0) dNil)) (dC (.int 6))))) (dFz (dOp gAdd (dOp (gI CDivN fun i j => .int (i.fdiv j)) (dCB gSum (dCons (dVar 0) dNil)) (dC (.int 6))) (dCB gLen (dCons (dVar 0) dNil)))) (dLst dNil))
  (dSeq (dIfS (dT (dOp gEq (dOp (gI (fun _ j => j ≠ 0) fun i j => .int (i.fmod j)) (dVar 2) (dC (.int 3))) (dC (.int 2)))) (dSeq (dSet 1 (dFz (dOp gAdd (dC (.int 1)) (dOp (gI (fun _ j => j ≠ 0) fun i j => .int (i.fmod j)) (dOp (gI CDivN fun i j => .int (i.fdiv j)) (dVar 2) (dC (.int 3))) (dOp gAdd (dCB gLen (dCons (dVar 0) dNil)) (dC (.int 1)))))))
  (dSeq (dFor (dIl (dFz (dTwo (dVar 0)))) (dgN 4) (T_law_minds_f1 K))
  (dRet (dTup (dCons (dVar 1) (dCons (dFz (dSsetP (dLc 7 (dIl (dVar 3)) (T_law_minds_c2t K) (T_law_minds_c2 K)))) dNil)))))) dNx)
  (dSeq (dFor (dIr1 (dCons (dVar 1) dNil)) (dgN 5) (T_law_minds_f4 K))
  (dRet (dTup (dCons (dVar 1) (dCons (dVar 3) dNil)))))))
theorem fmod_nn (a : Int) {b : Int} (h : 0 < b) : 0 ≤ a.fmod b := Int.fmod_nonneg_of_pos _ h
theorem fmod_lt (a : Int) {b : Int} (h : 0 < b) : a.fmod b < b := Int.fmod_lt_of_pos _ h
/-! the pairs of a walk over cells -/
theorem minds_f1 {K : PySem.W.Frag} {n : Int} {d0 d2 : D} {E : EndsD} (hn : 1 ≤ n) (hn2 : n ≤ 64) (h : ∀ (qs : List (Int × Int)) e4 e5 e6 e7, qs.length < 64 → (∀ q ∈ qs, (0 ≤ q.1 ∧ q.1 < n) ∧ (0 ≤ q.2 ∧ q.2 < n)) → E.nx [.tr d0, .tr (.int n), .tr d2, .tr (.olst (qs.map pD)), e4, e5, e6, e7]) :
    ∀ (cs : List Int) (qs : List (Int × Int)) (e4 e5 e6 e7 : DV), qs.length + cs.length < 64 → (∀ q ∈ qs, (0 ≤ q.1 ∧ q.1 < n) ∧ (0 ≤ q.2 ∧ q.2 < n)) → forGo (dgN 4) (T_law_minds_f1 K) E (cs.map .int) [.tr d0, .tr (.int n), .tr d2, .tr (.olst (qs.map pD)), e4, e5, e6, e7]
  | [], qs, e4, e5, e6, e7, hl, hq => h qs e4 e5 e6 e7 (by simpa using hl) hq
  | c :: cs, qs, e4, e5, e6, e7, hl, hq => by
    rw [List.length_cons] at hl
    refine forGo_op fun N hN => ?_
    simp only [T_law_minds_f1, dSeq, dIfS, dT, dTn, dTa, dTo, dOp, dVar, dC, dFz_eq, dCB, dCons, dNil, dCall, dCallB, dMeth, dMethB, dSet, dApp, dExt, dRet, dRetM, dNx, dDrop, dNeg, dAnd, dOr, dNot, dIf, dCh, dCh3, dU, dTup, dLst, dFld, dIsi, dIl, dIe, dIr1, dIr2, dIv1, dgN, dgT, putAll, dFor, dPar2, dPar3, dSetT, dLc, dYes, dSl, dNo, dSome, dRev, dNev, dSset, dCount, dIndex, dLrg1, dLrg2, dTwo, un_non, un_int, un_bl, un_str, un_lst, un_tup, un_obj, un_dct, un_scr, un_olst, un_oll, un_oobj, un_mv, un_m, un_p, pl_non, pl_int, pl_bl, pl_str, pl_lst, pl_tup, pl_obj, pl_dct, pl_scr, pl_m, pl_p, fzm_non, fzm_int, fzm_bl, fzm_lst, fzm_tup, fzm_obj, fzm_scr, fzm_olst, fzm_oll, fzm_oobj, fzm_m, frz_non, frz_int, frz_bl, frz_str, frz_lst, frz_tup, frz_obj, frz_dct, frz_scr, frz_olst, frz_oll, frz_m, fz_no, fz_tr, see_no, see_tr, asB_bl, asI_int, asgD_non, asgD_int, asgD_bl, asgD_lst, asgD_tup, asgD_obj, asgD_mv, asgD_m, it_lst, it_olst, it_scr, li_lst, li_olst, pit_lst, pit_scr, sz_lst, sz_olst, sz_oll, sz_scr, sz_tup, ad_int, ad_ll, ad_oo, ad_lo, ad_ol, mu_int, mu_l, mu_o, gI_int, gI0_int, gI2_int, ii_eqv, co_int, co_bl, co_non, co_row, co_rowO, co_nil, co_nilO, co_ps, co_p, co_p2, co_rows, ev_ll, ev_ol, ev_lo, ev_oo, ev_ln, ev_lno, ev_on, ev_ono, in_ps, in_row, gEq, gNe, gIn, gNotIn, g1, g2, gLen, gList, δof, List.getElem?_cons_zero, List.getElem?_cons_succ, List.getElem?_nil, List.set_cons_zero, List.set_cons_succ, List.map_cons, List.map_nil, List.length_cons, List.length_nil, List.replicate_succ, List.replicate_zero, List.cons_append, List.nil_append, Option.bind_some, Option.bind_none, List.all_cons, List.all_nil, List.append_nil, Nat.reduceAdd, Nat.reduceSub, true_and, and_true, Bool.and_true, Bool.true_and]
    refine ⟨⟨by decide, by decide⟩, by omega, ⟨by decide, by decide⟩, ⟨by omega, by omega⟩, by omega, by rw [List.length_map]; omega, by decide, ?_⟩
    have a0 := fmod_nn (c.fdiv 90) (b := n) (by omega)
    have a1 := fmod_lt (c.fdiv 90) (b := n) (by omega)
    have b0 := fmod_nn ((c.fdiv 90).fdiv n) (b := n) (by omega)
    have b1 := fmod_lt ((c.fdiv 90).fdiv n) (b := n) (by omega)
    generalize (c.fdiv 90).fmod n = a at *
    generalize ((c.fdiv 90).fdiv n).fmod n = b at *
    rw [hN]
    have z := minds_f1 (K := K) (d0 := d0) (d2 := d2) (E := E) hn hn2 h cs (qs ++ [(if b < a then b else a, if b > a then b else a)]) (.tr (.int c)) (.tr (.int a)) (.tr (.int b)) e7 (by rw [List.length_append, List.length_cons, List.length_nil]; omega) fun q hq2 => by
      rcases List.mem_append.mp hq2 with hq2 | hq2
      · exact hq q hq2
      · rw [List.mem_singleton.mp hq2]
        refine ⟨⟨?_, ?_⟩, ?_, ?_⟩ <;> (dsimp only; split <;> omega)
    rw [List.map_append] at z
    exact z
theorem minds_c2 {K : PySem.W.Frag} {P : D → Prop} {e0 e1 e2 e3 e4 e5 e6 : DV} : ∀ (qs acc : List (Int × Int)) (e7 : DV), acc.length + qs.length ≤ 1000 → P (.mv (.olst ((acc ++ qs.filter fun q => decide (q.1 < q.2)).map pD))) → compGo 7 (T_law_minds_c2t K) (T_law_minds_c2 K) P (qs.map pD) (acc.map pD) [e0, e1, e2, e3, e4, e5, e6, e7]
  | [], acc, e7, _, h => by
    rw [List.filter_nil, List.append_nil] at h
    exact h
  | q :: qs, acc, e7, hl, h => by
    rw [List.length_cons] at hl
    refine compGo_op fun N hN => ?_
    simp only [T_law_minds_c2t, T_law_minds_c2, dSeq, dIfS, dT, dTn, dTa, dTo, dOp, dVar, dC, dFz_eq, dCB, dCons, dNil, dCall, dCallB, dMeth, dMethB, dSet, dApp, dExt, dRet, dRetM, dNx, dDrop, dNeg, dAnd, dOr, dNot, dIf, dCh, dCh3, dU, dTup, dLst, dFld, dIsi, dIl, dIe, dIr1, dIr2, dIv1, dgN, dgT, putAll, dFor, dPar2, dPar3, dSetT, dLc, dYes, dSl, dNo, dSome, dRev, dNev, dSset, dCount, dIndex, dLrg1, dLrg2, dTwo, un_non, un_int, un_bl, un_str, un_lst, un_tup, un_obj, un_dct, un_scr, un_olst, un_oll, un_oobj, un_mv, un_m, un_p, pl_non, pl_int, pl_bl, pl_str, pl_lst, pl_tup, pl_obj, pl_dct, pl_scr, pl_m, pl_p, fzm_non, fzm_int, fzm_bl, fzm_lst, fzm_tup, fzm_obj, fzm_scr, fzm_olst, fzm_oll, fzm_oobj, fzm_m, frz_non, frz_int, frz_bl, frz_str, frz_lst, frz_tup, frz_obj, frz_dct, frz_scr, frz_olst, frz_oll, frz_m, fz_no, fz_tr, see_no, see_tr, asB_bl, asI_int, asgD_non, asgD_int, asgD_bl, asgD_lst, asgD_tup, asgD_obj, asgD_mv, asgD_m, it_lst, it_olst, it_scr, li_lst, li_olst, pit_lst, pit_scr, sz_lst, sz_olst, sz_oll, sz_scr, sz_tup, ad_int, ad_ll, ad_oo, ad_lo, ad_ol, mu_int, mu_l, mu_o, gI_int, gI0_int, gI2_int, ii_eqv, co_int, co_bl, co_non, co_row, co_rowO, co_nil, co_nilO, co_ps, co_p, co_p2, co_rows, ev_ll, ev_ol, ev_lo, ev_oo, ev_ln, ev_lno, ev_on, ev_ono, in_ps, in_row, gEq, gNe, gIn, gNotIn, g1, g2, gLen, gList, δof, List.getElem?_cons_zero, List.getElem?_cons_succ, List.getElem?_nil, List.set_cons_zero, List.set_cons_succ, List.map_cons, List.map_nil, List.length_cons, List.length_nil, List.replicate_succ, List.replicate_zero, List.cons_append, List.nil_append, Option.bind_some, Option.bind_none, List.all_cons, List.all_nil, List.append_nil, Nat.reduceAdd, Nat.reduceSub, true_and, and_true, Bool.and_true, Bool.true_and]
    refine ix_tup ⟨_, at_zero, ?_⟩
    simp only [dSeq, dIfS, dT, dTn, dTa, dTo, dOp, dVar, dC, dFz_eq, dCB, dCons, dNil, dCall, dCallB, dMeth, dMethB, dSet, dApp, dExt, dRet, dRetM, dNx, dDrop, dNeg, dAnd, dOr, dNot, dIf, dCh, dCh3, dU, dTup, dLst, dFld, dIsi, dIl, dIe, dIr1, dIr2, dIv1, dgN, dgT, putAll, dFor, dPar2, dPar3, dSetT, dLc, dYes, dSl, dNo, dSome, dRev, dNev, dSset, dCount, dIndex, dLrg1, dLrg2, dTwo, un_non, un_int, un_bl, un_str, un_lst, un_tup, un_obj, un_dct, un_scr, un_olst, un_oll, un_oobj, un_mv, un_m, un_p, pl_non, pl_int, pl_bl, pl_str, pl_lst, pl_tup, pl_obj, pl_dct, pl_scr, pl_m, pl_p, fzm_non, fzm_int, fzm_bl, fzm_lst, fzm_tup, fzm_obj, fzm_scr, fzm_olst, fzm_oll, fzm_oobj, fzm_m, frz_non, frz_int, frz_bl, frz_str, frz_lst, frz_tup, frz_obj, frz_dct, frz_scr, frz_olst, frz_oll, frz_m, fz_no, fz_tr, see_no, see_tr, asB_bl, asI_int, asgD_non, asgD_int, asgD_bl, asgD_lst, asgD_tup, asgD_obj, asgD_mv, asgD_m, it_lst, it_olst, it_scr, li_lst, li_olst, pit_lst, pit_scr, sz_lst, sz_olst, sz_oll, sz_scr, sz_tup, ad_int, ad_ll, ad_oo, ad_lo, ad_ol, mu_int, mu_l, mu_o, gI_int, gI0_int, gI2_int, ii_eqv, co_int, co_bl, co_non, co_row, co_rowO, co_nil, co_nilO, co_ps, co_p, co_p2, co_rows, ev_ll, ev_ol, ev_lo, ev_oo, ev_ln, ev_lno, ev_on, ev_ono, in_ps, in_row, gEq, gNe, gIn, gNotIn, g1, g2, gLen, gList, δof, List.getElem?_cons_zero, List.getElem?_cons_succ, List.getElem?_nil, List.set_cons_zero, List.set_cons_succ, List.map_cons, List.map_nil, List.length_cons, List.length_nil, List.replicate_succ, List.replicate_zero, List.cons_append, List.nil_append, Option.bind_some, Option.bind_none, List.all_cons, List.all_nil, List.append_nil, Nat.reduceAdd, Nat.reduceSub, true_and, and_true, Bool.and_true, Bool.true_and]
    refine ix_tup ⟨_, at_nat (i := 1) rfl, ?_⟩
    simp only [dSeq, dIfS, dT, dTn, dTa, dTo, dOp, dVar, dC, dFz_eq, dCB, dCons, dNil, dCall, dCallB, dMeth, dMethB, dSet, dApp, dExt, dRet, dRetM, dNx, dDrop, dNeg, dAnd, dOr, dNot, dIf, dCh, dCh3, dU, dTup, dLst, dFld, dIsi, dIl, dIe, dIr1, dIr2, dIv1, dgN, dgT, putAll, dFor, dPar2, dPar3, dSetT, dLc, dYes, dSl, dNo, dSome, dRev, dNev, dSset, dCount, dIndex, dLrg1, dLrg2, dTwo, un_non, un_int, un_bl, un_str, un_lst, un_tup, un_obj, un_dct, un_scr, un_olst, un_oll, un_oobj, un_mv, un_m, un_p, pl_non, pl_int, pl_bl, pl_str, pl_lst, pl_tup, pl_obj, pl_dct, pl_scr, pl_m, pl_p, fzm_non, fzm_int, fzm_bl, fzm_lst, fzm_tup, fzm_obj, fzm_scr, fzm_olst, fzm_oll, fzm_oobj, fzm_m, frz_non, frz_int, frz_bl, frz_str, frz_lst, frz_tup, frz_obj, frz_dct, frz_scr, frz_olst, frz_oll, frz_m, fz_no, fz_tr, see_no, see_tr, asB_bl, asI_int, asgD_non, asgD_int, asgD_bl, asgD_lst, asgD_tup, asgD_obj, asgD_mv, asgD_m, it_lst, it_olst, it_scr, li_lst, li_olst, pit_lst, pit_scr, sz_lst, sz_olst, sz_oll, sz_scr, sz_tup, ad_int, ad_ll, ad_oo, ad_lo, ad_ol, mu_int, mu_l, mu_o, gI_int, gI0_int, gI2_int, ii_eqv, co_int, co_bl, co_non, co_row, co_rowO, co_nil, co_nilO, co_ps, co_p, co_p2, co_rows, ev_ll, ev_ol, ev_lo, ev_oo, ev_ln, ev_lno, ev_on, ev_ono, in_ps, in_row, gEq, gNe, gIn, gNotIn, g1, g2, gLen, gList, δof, List.getElem?_cons_zero, List.getElem?_cons_succ, List.getElem?_nil, List.set_cons_zero, List.set_cons_succ, List.map_cons, List.map_nil, List.length_cons, List.length_nil, List.replicate_succ, List.replicate_zero, List.cons_append, List.nil_append, Option.bind_some, Option.bind_none, List.all_cons, List.all_nil, List.append_nil, Nat.reduceAdd, Nat.reduceSub, true_and, and_true, Bool.and_true, Bool.true_and]
    rw [hN]
    by_cases c : q.1 < q.2
    · rw [List.filter_cons_of_pos (by simpa using c)] at h
      simp only [decide_eq_true c, dSeq, dIfS, dT, dTn, dTa, dTo, dOp, dVar, dC, dFz_eq, dCB, dCons, dNil, dCall, dCallB, dMeth, dMethB, dSet, dApp, dExt, dRet, dRetM, dNx, dDrop, dNeg, dAnd, dOr, dNot, dIf, dCh, dCh3, dU, dTup, dLst, dFld, dIsi, dIl, dIe, dIr1, dIr2, dIv1, dgN, dgT, putAll, dFor, dPar2, dPar3, dSetT, dLc, dYes, dSl, dNo, dSome, dRev, dNev, dSset, dCount, dIndex, dLrg1, dLrg2, dTwo, un_non, un_int, un_bl, un_str, un_lst, un_tup, un_obj, un_dct, un_scr, un_olst, un_oll, un_oobj, un_mv, un_m, un_p, pl_non, pl_int, pl_bl, pl_str, pl_lst, pl_tup, pl_obj, pl_dct, pl_scr, pl_m, pl_p, fzm_non, fzm_int, fzm_bl, fzm_lst, fzm_tup, fzm_obj, fzm_scr, fzm_olst, fzm_oll, fzm_oobj, fzm_m, frz_non, frz_int, frz_bl, frz_str, frz_lst, frz_tup, frz_obj, frz_dct, frz_scr, frz_olst, frz_oll, frz_m, fz_no, fz_tr, see_no, see_tr, asB_bl, asI_int, asgD_non, asgD_int, asgD_bl, asgD_lst, asgD_tup, asgD_obj, asgD_mv, asgD_m, it_lst, it_olst, it_scr, li_lst, li_olst, pit_lst, pit_scr, sz_lst, sz_olst, sz_oll, sz_scr, sz_tup, ad_int, ad_ll, ad_oo, ad_lo, ad_ol, mu_int, mu_l, mu_o, gI_int, gI0_int, gI2_int, ii_eqv, co_int, co_bl, co_non, co_row, co_rowO, co_nil, co_nilO, co_ps, co_p, co_p2, co_rows, ev_ll, ev_ol, ev_lo, ev_oo, ev_ln, ev_lno, ev_on, ev_ono, in_ps, in_row, gEq, gNe, gIn, gNotIn, g1, g2, gLen, gList, δof, List.getElem?_cons_zero, List.getElem?_cons_succ, List.getElem?_nil, List.set_cons_zero, List.set_cons_succ, List.map_cons, List.map_nil, List.length_cons, List.length_nil, List.replicate_succ, List.replicate_zero, List.cons_append, List.nil_append, Option.bind_some, Option.bind_none, List.all_cons, List.all_nil, List.append_nil, Nat.reduceAdd, Nat.reduceSub, true_and, and_true, Bool.and_true, Bool.true_and]
      have z := minds_c2 (K := K) (P := P) (e0 := e0) (e1 := e1) (e2 := e2) (e3 := e3) (e4 := e4) (e5 := e5) (e6 := e6) qs (acc ++ [q]) e7 (by rw [List.length_append, List.length_cons, List.length_nil]; omega) (by rw [List.append_assoc]; exact h)
      rw [List.map_append] at z
      exact ⟨by rw [List.length_map]; omega, z⟩
    · rw [List.filter_cons_of_neg (by simpa using c)] at h
      simp only [decide_eq_false c]
      exact minds_c2 (K := K) (P := P) qs acc e7 (by omega) h
/-! the pairs of two loops -/
def Lx (one : Int) (q : Int × Int) : Prop := q.1 < one
theorem minds_f3 {K : PySem.W.Frag} {n one : Int} {d0 : D} {E : EndsD} {bound : Nat} (h0 : 0 ≤ one) (h : ∀ (code : Int) (ps : List (Int × Int)) e6, ps.Nodup → ps.length ≤ bound → (∀ q ∈ ps, 0 ≤ q.1 ∧ q.1 < q.2 ∧ q.2 < n ∧ q.1 < one + 1) → E.nx [.tr d0, .tr (.int n), .tr (.int code), .tr (.olst (ps.map pD)), .no, .tr (.int one), e6, .no]) (hb : bound ≤ 1000) :
    ∀ (js : List Int) (code : Int) (ps : List (Int × Int)) (e6 : DV), js.Pairwise (· < ·) → (∀ j ∈ js, one < j ∧ j < n) → ps.Nodup → ps.length + js.length ≤ bound → (∀ q ∈ ps, 0 ≤ q.1 ∧ q.1 < q.2 ∧ q.2 < n ∧ (q.1 < one ∨ (q.1 = one ∧ ∀ j ∈ js, q.2 < j))) →
      forGo (dgN 6) (T_law_minds_f3 K) E (js.map .int) [.tr d0, .tr (.int n), .tr (.int code), .tr (.olst (ps.map pD)), .no, .tr (.int one), e6, .no]
  | [], code, ps, e6, _, _, hnd, hl, hp => h code ps e6 hnd (by simpa using hl) fun q hq => by
      obtain ⟨a, b, c, d⟩ := hp q hq
      refine ⟨a, b, c, ?_⟩
      rcases d with d | ⟨d, _⟩ <;> omega
  | j :: js, code, ps, e6, up, hj, hnd, hl, hp => by
    rw [List.length_cons] at hl
    obtain ⟨u1, u2⟩ := List.pairwise_cons.mp up
    obtain ⟨j1, j2⟩ := hj j List.mem_cons_self
    refine forGo_op fun N hN => ?_
    simp only [T_law_minds_f3, dSeq, dIfS, dT, dTn, dTa, dTo, dOp, dVar, dC, dFz_eq, dCB, dCons, dNil, dCall, dCallB, dMeth, dMethB, dSet, dApp, dExt, dRet, dRetM, dNx, dDrop, dNeg, dAnd, dOr, dNot, dIf, dCh, dCh3, dU, dTup, dLst, dFld, dIsi, dIl, dIe, dIr1, dIr2, dIv1, dgN, dgT, putAll, dFor, dPar2, dPar3, dSetT, dLc, dYes, dSl, dNo, dSome, dRev, dNev, dSset, dCount, dIndex, dLrg1, dLrg2, dTwo, un_non, un_int, un_bl, un_str, un_lst, un_tup, un_obj, un_dct, un_scr, un_olst, un_oll, un_oobj, un_mv, un_m, un_p, pl_non, pl_int, pl_bl, pl_str, pl_lst, pl_tup, pl_obj, pl_dct, pl_scr, pl_m, pl_p, fzm_non, fzm_int, fzm_bl, fzm_lst, fzm_tup, fzm_obj, fzm_scr, fzm_olst, fzm_oll, fzm_oobj, fzm_m, frz_non, frz_int, frz_bl, frz_str, frz_lst, frz_tup, frz_obj, frz_dct, frz_scr, frz_olst, frz_oll, frz_m, fz_no, fz_tr, see_no, see_tr, asB_bl, asI_int, asgD_non, asgD_int, asgD_bl, asgD_lst, asgD_tup, asgD_obj, asgD_mv, asgD_m, it_lst, it_olst, it_scr, li_lst, li_olst, pit_lst, pit_scr, sz_lst, sz_olst, sz_oll, sz_scr, sz_tup, ad_int, ad_ll, ad_oo, ad_lo, ad_ol, mu_int, mu_l, mu_o, gI_int, gI0_int, gI2_int, ii_eqv, co_int, co_bl, co_non, co_row, co_rowO, co_nil, co_nilO, co_ps, co_p, co_p2, co_rows, ev_ll, ev_ol, ev_lo, ev_oo, ev_ln, ev_lno, ev_on, ev_ono, in_ps, in_row, gEq, gNe, gIn, gNotIn, g1, g2, gLen, gList, δof, List.getElem?_cons_zero, List.getElem?_cons_succ, List.getElem?_nil, List.set_cons_zero, List.set_cons_succ, List.map_cons, List.map_nil, List.length_cons, List.length_nil, List.replicate_succ, List.replicate_zero, List.cons_append, List.nil_append, Option.bind_some, Option.bind_none, List.all_cons, List.all_nil, List.append_nil, Nat.reduceAdd, Nat.reduceSub, true_and, and_true, Bool.and_true, Bool.true_and]
    refine ⟨by decide, ?_⟩
    have rest : ∀ (ps : List (Int × Int)), ps.Nodup → ps.length + js.length ≤ bound → (∀ q ∈ ps, 0 ≤ q.1 ∧ q.1 < q.2 ∧ q.2 < n ∧ (q.1 < one ∨ (q.1 = one ∧ ∀ j ∈ js, q.2 < j))) → CDivN code 3 ∧ CMul 7 j ∧ N [.tr d0, .tr (.int n), .tr (.int (code.fdiv 3 + 7 * j)), .tr (.olst (ps.map pD)), .no, .tr (.int one), .tr (.int j), .no] := fun ps a b c => by
      rw [hN]
      exact ⟨⟨by decide, by decide⟩, .inl ⟨by decide, by decide⟩, minds_f3 h0 h hb js _ ps _ u2 (fun i hi => hj i (List.mem_cons_of_mem _ hi)) a b c⟩
    by_cases c : code.fmod 5 < 2
    · simp only [decide_eq_true c, dSeq, dIfS, dT, dTn, dTa, dTo, dOp, dVar, dC, dFz_eq, dCB, dCons, dNil, dCall, dCallB, dMeth, dMethB, dSet, dApp, dExt, dRet, dRetM, dNx, dDrop, dNeg, dAnd, dOr, dNot, dIf, dCh, dCh3, dU, dTup, dLst, dFld, dIsi, dIl, dIe, dIr1, dIr2, dIv1, dgN, dgT, putAll, dFor, dPar2, dPar3, dSetT, dLc, dYes, dSl, dNo, dSome, dRev, dNev, dSset, dCount, dIndex, dLrg1, dLrg2, dTwo, un_non, un_int, un_bl, un_str, un_lst, un_tup, un_obj, un_dct, un_scr, un_olst, un_oll, un_oobj, un_mv, un_m, un_p, pl_non, pl_int, pl_bl, pl_str, pl_lst, pl_tup, pl_obj, pl_dct, pl_scr, pl_m, pl_p, fzm_non, fzm_int, fzm_bl, fzm_lst, fzm_tup, fzm_obj, fzm_scr, fzm_olst, fzm_oll, fzm_oobj, fzm_m, frz_non, frz_int, frz_bl, frz_str, frz_lst, frz_tup, frz_obj, frz_dct, frz_scr, frz_olst, frz_oll, frz_m, fz_no, fz_tr, see_no, see_tr, asB_bl, asI_int, asgD_non, asgD_int, asgD_bl, asgD_lst, asgD_tup, asgD_obj, asgD_mv, asgD_m, it_lst, it_olst, it_scr, li_lst, li_olst, pit_lst, pit_scr, sz_lst, sz_olst, sz_oll, sz_scr, sz_tup, ad_int, ad_ll, ad_oo, ad_lo, ad_ol, mu_int, mu_l, mu_o, gI_int, gI0_int, gI2_int, ii_eqv, co_int, co_bl, co_non, co_row, co_rowO, co_nil, co_nilO, co_ps, co_p, co_p2, co_rows, ev_ll, ev_ol, ev_lo, ev_oo, ev_ln, ev_lno, ev_on, ev_ono, in_ps, in_row, gEq, gNe, gIn, gNotIn, g1, g2, gLen, gList, δof, List.getElem?_cons_zero, List.getElem?_cons_succ, List.getElem?_nil, List.set_cons_zero, List.set_cons_succ, List.map_cons, List.map_nil, List.length_cons, List.length_nil, List.replicate_succ, List.replicate_zero, List.cons_append, List.nil_append, Option.bind_some, Option.bind_none, List.all_cons, List.all_nil, List.append_nil, Nat.reduceAdd, Nat.reduceSub, true_and, and_true, Bool.and_true, Bool.true_and]
      refine ⟨by rw [List.length_map]; omega, by decide, ?_⟩
      have z := rest (ps ++ [(one, j)]) ?_ ?_ ?_
      · rw [List.map_append] at z
        exact z
      · rw [List.nodup_append]
        refine ⟨hnd, by simp, fun q hq r hr => ?_⟩
        rw [List.mem_singleton.mp hr]
        intro e
        rw [e] at hq
        rcases (hp _ hq).2.2.2 with d | ⟨_, d⟩
        · exact absurd d (by dsimp only; omega)
        · have := d j List.mem_cons_self
          dsimp only at this
          omega
      · rw [List.length_append, List.length_cons, List.length_nil]
        omega
      · intro q hq
        rcases List.mem_append.mp hq with hq | hq
        · obtain ⟨a, b, c, d⟩ := hp q hq
          refine ⟨a, b, c, ?_⟩
          rcases d with d | ⟨d1, d2⟩
          · exact .inl d
          · exact .inr ⟨d1, fun i hi => d2 i (List.mem_cons_of_mem _ hi)⟩
        · rw [List.mem_singleton.mp hq]
          exact ⟨h0, j1, j2, .inr ⟨rfl, u1⟩⟩
    · simp only [decide_eq_false c, dSeq, dIfS, dT, dTn, dTa, dTo, dOp, dVar, dC, dFz_eq, dCB, dCons, dNil, dCall, dCallB, dMeth, dMethB, dSet, dApp, dExt, dRet, dRetM, dNx, dDrop, dNeg, dAnd, dOr, dNot, dIf, dCh, dCh3, dU, dTup, dLst, dFld, dIsi, dIl, dIe, dIr1, dIr2, dIv1, dgN, dgT, putAll, dFor, dPar2, dPar3, dSetT, dLc, dYes, dSl, dNo, dSome, dRev, dNev, dSset, dCount, dIndex, dLrg1, dLrg2, dTwo, un_non, un_int, un_bl, un_str, un_lst, un_tup, un_obj, un_dct, un_scr, un_olst, un_oll, un_oobj, un_mv, un_m, un_p, pl_non, pl_int, pl_bl, pl_str, pl_lst, pl_tup, pl_obj, pl_dct, pl_scr, pl_m, pl_p, fzm_non, fzm_int, fzm_bl, fzm_lst, fzm_tup, fzm_obj, fzm_scr, fzm_olst, fzm_oll, fzm_oobj, fzm_m, frz_non, frz_int, frz_bl, frz_str, frz_lst, frz_tup, frz_obj, frz_dct, frz_scr, frz_olst, frz_oll, frz_m, fz_no, fz_tr, see_no, see_tr, asB_bl, asI_int, asgD_non, asgD_int, asgD_bl, asgD_lst, asgD_tup, asgD_obj, asgD_mv, asgD_m, it_lst, it_olst, it_scr, li_lst, li_olst, pit_lst, pit_scr, sz_lst, sz_olst, sz_oll, sz_scr, sz_tup, ad_int, ad_ll, ad_oo, ad_lo, ad_ol, mu_int, mu_l, mu_o, gI_int, gI0_int, gI2_int, ii_eqv, co_int, co_bl, co_non, co_row, co_rowO, co_nil, co_nilO, co_ps, co_p, co_p2, co_rows, ev_ll, ev_ol, ev_lo, ev_oo, ev_ln, ev_lno, ev_on, ev_ono, in_ps, in_row, gEq, gNe, gIn, gNotIn, g1, g2, gLen, gList, δof, List.getElem?_cons_zero, List.getElem?_cons_succ, List.getElem?_nil, List.set_cons_zero, List.set_cons_succ, List.map_cons, List.map_nil, List.length_cons, List.length_nil, List.replicate_succ, List.replicate_zero, List.cons_append, List.nil_append, Option.bind_some, Option.bind_none, List.all_cons, List.all_nil, List.append_nil, Nat.reduceAdd, Nat.reduceSub, true_and, and_true, Bool.and_true, Bool.true_and]
      refine rest ps hnd (by omega) fun q hq => ?_
      obtain ⟨a, b, c, d⟩ := hp q hq
      refine ⟨a, b, c, ?_⟩
      rcases d with d | ⟨d1, d2⟩
      · exact .inl d
      · exact .inr ⟨d1, fun i hi => d2 i (List.mem_cons_of_mem _ hi)⟩
theorem rng_map (lo : Int) (n : Nat) : rng lo n = ((List.range n).map fun (i : Nat) => lo + (i : Int)).map D.int := by
  unfold rng
  rw [List.map_map]
  rfl
theorem rng_up (lo : Int) (n : Nat) : ((List.range n).map fun (i : Nat) => lo + (i : Int)).Pairwise (· < ·) := by
  rw [List.pairwise_map]
  exact List.pairwise_lt_range.imp fun h => by omega
theorem rng_mem {lo : Int} {n : Nat} {j : Int} (h : j ∈ (List.range n).map fun (i : Nat) => lo + (i : Int)) : lo ≤ j ∧ j < lo + n := by
  obtain ⟨i, hi, rfl⟩ := List.mem_map.mp h
  have := List.mem_range.mp hi
  omega
theorem minds_f4 {K : PySem.W.Frag} {n : Int} {d0 : D} {E : EndsD} (hn : n ≤ 6) (h : ∀ (code : Int) (ps : List (Int × Int)) e5 e6, ps.Nodup → ps.length ≤ 36 → (∀ q ∈ ps, 0 ≤ q.1 ∧ q.1 < q.2 ∧ q.2 < n) → E.nx [.tr d0, .tr (.int n), .tr (.int code), .tr (.olst (ps.map pD)), .no, e5, e6, .no]) :
    ∀ (is : List Int) (one : Int) (code : Int) (ps : List (Int × Int)) (e5 e6 : DV), is.Pairwise (· < ·) → (∀ i ∈ is, one ≤ i ∧ 0 ≤ i ∧ i < n) → ps.Nodup → ps.length + 6 * is.length ≤ 36 → (∀ q ∈ ps, 0 ≤ q.1 ∧ q.1 < q.2 ∧ q.2 < n ∧ q.1 < one) →
      forGo (dgN 5) (T_law_minds_f4 K) E (is.map .int) [.tr d0, .tr (.int n), .tr (.int code), .tr (.olst (ps.map pD)), .no, e5, e6, .no]
  | [], one, code, ps, e5, e6, _, _, hnd, hl, hp => h code ps e5 e6 hnd (by simpa using hl) fun q hq => ⟨(hp q hq).1, (hp q hq).2.1, (hp q hq).2.2.1⟩
  | i :: is, one, code, ps, e5, e6, up, hi, hnd, hl, hp => by
    rw [List.length_cons] at hl
    obtain ⟨u1, u2⟩ := List.pairwise_cons.mp up
    obtain ⟨i1, i2, i3⟩ := hi i List.mem_cons_self
    refine forGo_op fun N hN => ?_
    simp only [T_law_minds_f4, dSeq, dIfS, dT, dTn, dTa, dTo, dOp, dVar, dC, dFz_eq, dCB, dCons, dNil, dCall, dCallB, dMeth, dMethB, dSet, dApp, dExt, dRet, dRetM, dNx, dDrop, dNeg, dAnd, dOr, dNot, dIf, dCh, dCh3, dU, dTup, dLst, dFld, dIsi, dIl, dIe, dIr1, dIr2, dIv1, dgN, dgT, putAll, dFor, dPar2, dPar3, dSetT, dLc, dYes, dSl, dNo, dSome, dRev, dNev, dSset, dCount, dIndex, dLrg1, dLrg2, dTwo, un_non, un_int, un_bl, un_str, un_lst, un_tup, un_obj, un_dct, un_scr, un_olst, un_oll, un_oobj, un_mv, un_m, un_p, pl_non, pl_int, pl_bl, pl_str, pl_lst, pl_tup, pl_obj, pl_dct, pl_scr, pl_m, pl_p, fzm_non, fzm_int, fzm_bl, fzm_lst, fzm_tup, fzm_obj, fzm_scr, fzm_olst, fzm_oll, fzm_oobj, fzm_m, frz_non, frz_int, frz_bl, frz_str, frz_lst, frz_tup, frz_obj, frz_dct, frz_scr, frz_olst, frz_oll, frz_m, fz_no, fz_tr, see_no, see_tr, asB_bl, asI_int, asgD_non, asgD_int, asgD_bl, asgD_lst, asgD_tup, asgD_obj, asgD_mv, asgD_m, it_lst, it_olst, it_scr, li_lst, li_olst, pit_lst, pit_scr, sz_lst, sz_olst, sz_oll, sz_scr, sz_tup, ad_int, ad_ll, ad_oo, ad_lo, ad_ol, mu_int, mu_l, mu_o, gI_int, gI0_int, gI2_int, ii_eqv, co_int, co_bl, co_non, co_row, co_rowO, co_nil, co_nilO, co_ps, co_p, co_p2, co_rows, ev_ll, ev_ol, ev_lo, ev_oo, ev_ln, ev_lno, ev_on, ev_ono, in_ps, in_row, gEq, gNe, gIn, gNotIn, g1, g2, gLen, gList, δof, List.getElem?_cons_zero, List.getElem?_cons_succ, List.getElem?_nil, List.set_cons_zero, List.set_cons_succ, List.map_cons, List.map_nil, List.length_cons, List.length_nil, List.replicate_succ, List.replicate_zero, List.cons_append, List.nil_append, Option.bind_some, Option.bind_none, List.all_cons, List.all_nil, List.append_nil, Nat.reduceAdd, Nat.reduceSub, true_and, and_true, Bool.and_true, Bool.true_and]
    refine ⟨by omega, by omega, ?_⟩
    rw [rng_map]
    refine minds_f3 (K := K) (n := n) (one := i) (bound := ps.length + 6) i2 (fun code ps2 e6 a b c => ?_) (by omega) _ code ps e6 (rng_up _ _) (fun j hj => ?_) hnd ?_ fun q hq => ?_
    · rw [hN]
      exact minds_f4 hn h is (i + 1) code ps2 _ e6 u2 (fun j hj => ⟨by have := u1 j hj; omega, (hi j (List.mem_cons_of_mem _ hj)).2⟩) a (by omega) c
    · have := rng_mem hj
      omega
    · rw [List.length_map, List.length_range]
      omega
    · obtain ⟨a, b, c, d⟩ := hp q hq
      exact ⟨a, b, c, .inl (by omega)⟩
theorem pick_mem {α : Type} {xs : List α} {is : List Nat} {x : α} (h : x ∈ pick xs is) : x ∈ xs := by
  obtain ⟨i, _, e⟩ := List.mem_filterMap.mp h
  exact List.mem_of_getElem? e
theorem pick_len {α : Type} (xs : List α) (is : List Nat) : (pick xs is).length ≤ is.length := List.length_filterMap_le _ _
theorem pick_map {α β : Type} (f : α → β) (xs : List α) (is : List Nat) : pick (xs.map f) is = (pick xs is).map f := by
  unfold pick
  rw [List.map_filterMap]
  congr 1
  funext i
  rw [List.getElem?_map]
theorem nodup_filter {α : Type} {p : α → Bool} {xs : List α} (h : xs.Nodup) : (xs.filter p).Nodup := List.Pairwise.filter p h
/-- pigeons -/
theorem same_le {α : Type} [DecidableEq α] : ∀ {xs ys : List α}, xs.Nodup → (∀ x ∈ xs, x ∈ ys) → xs.length ≤ ys.length
  | [], _, _, _ => Nat.zero_le _
  | x :: xs, ys, nd, h => by
    obtain ⟨n1, n2⟩ := List.nodup_cons.mp nd
    have hx := h x List.mem_cons_self
    have ih := same_le (ys := ys.erase x) n2 fun y hy => (List.mem_erase_of_ne (fun (e : y = x) => n1 (e ▸ hy))).mpr (h y (List.mem_cons_of_mem _ hy))
    have e := List.length_erase_of_mem hx
    have p := List.length_pos_of_mem hx
    rw [List.length_cons]
    omega
theorem rd_law_minds {K : PySem.W.Frag} : ∀ ds Q, G_law_minds K ds Q → T_law_minds K { nx := fun _ => Q .non, rt := Q } (δof N_law_minds.length ds) := by
  rintro _ Q ⟨ns, rfl, hl, h⟩
  simp only [T_law_minds, dSeq, dIfS, dT, dTn, dTa, dTo, dOp, dVar, dC, dFz_eq, dCB, dCons, dNil, dCall, dCallB, dMeth, dMethB, dSet, dApp, dExt, dRet, dRetM, dNx, dDrop, dNeg, dAnd, dOr, dNot, dIf, dCh, dCh3, dU, dTup, dLst, dFld, dIsi, dIl, dIe, dIr1, dIr2, dIv1, dgN, dgT, putAll, dFor, dPar2, dPar3, dSetT, dLc, dYes, dSl, dNo, dSome, dRev, dNev, dSset, dCount, dIndex, dLrg1, dLrg2, dTwo, un_non, un_int, un_bl, un_str, un_lst, un_tup, un_obj, un_dct, un_scr, un_olst, un_oll, un_oobj, un_mv, un_m, un_p, pl_non, pl_int, pl_bl, pl_str, pl_lst, pl_tup, pl_obj, pl_dct, pl_scr, pl_m, pl_p, fzm_non, fzm_int, fzm_bl, fzm_lst, fzm_tup, fzm_obj, fzm_scr, fzm_olst, fzm_oll, fzm_oobj, fzm_m, frz_non, frz_int, frz_bl, frz_str, frz_lst, frz_tup, frz_obj, frz_dct, frz_scr, frz_olst, frz_oll, frz_m, fz_no, fz_tr, see_no, see_tr, asB_bl, asI_int, asgD_non, asgD_int, asgD_bl, asgD_lst, asgD_tup, asgD_obj, asgD_mv, asgD_m, it_lst, it_olst, it_scr, li_lst, li_olst, pit_lst, pit_scr, sz_lst, sz_olst, sz_oll, sz_scr, sz_tup, ad_int, ad_ll, ad_oo, ad_lo, ad_ol, mu_int, mu_l, mu_o, gI_int, gI0_int, gI2_int, ii_eqv, co_int, co_bl, co_non, co_row, co_rowO, co_nil, co_nilO, co_ps, co_p, co_p2, co_rows, ev_ll, ev_ol, ev_lo, ev_oo, ev_ln, ev_lno, ev_on, ev_ono, in_ps, in_row, gEq, gNe, gIn, gNotIn, g1, g2, gLen, gList, δof, List.getElem?_cons_zero, List.getElem?_cons_succ, List.getElem?_nil, List.set_cons_zero, List.set_cons_succ, List.map_cons, List.map_nil, List.length_cons, List.length_nil, List.replicate_succ, List.replicate_zero, List.cons_append, List.nil_append, Option.bind_some, Option.bind_none, List.all_cons, List.all_nil, List.append_nil, Nat.reduceAdd, Nat.reduceSub, true_and, and_true, Bool.and_true, Bool.true_and, gSum, gInts, ints_scr]
  refine ⟨by decide, ⟨by decide, by decide⟩, by decide, by decide, ?_⟩
  have k0 := fmod_nn ns.sum (b := 6) (by decide)
  have k1 := fmod_lt ns.sum (b := 6) (by decide)
  generalize ns.sum.fmod 6 = k at *
  generalize ns.sum.fdiv 6 + (ns.length : Int) = code
  by_cases c : code.fmod 3 = 2
  · simp only [decide_eq_true c, dSeq, dIfS, dT, dTn, dTa, dTo, dOp, dVar, dC, dFz_eq, dCB, dCons, dNil, dCall, dCallB, dMeth, dMethB, dSet, dApp, dExt, dRet, dRetM, dNx, dDrop, dNeg, dAnd, dOr, dNot, dIf, dCh, dCh3, dU, dTup, dLst, dFld, dIsi, dIl, dIe, dIr1, dIr2, dIv1, dgN, dgT, putAll, dFor, dPar2, dPar3, dSetT, dLc, dYes, dSl, dNo, dSome, dRev, dNev, dSset, dCount, dIndex, dLrg1, dLrg2, dTwo, un_non, un_int, un_bl, un_str, un_lst, un_tup, un_obj, un_dct, un_scr, un_olst, un_oll, un_oobj, un_mv, un_m, un_p, pl_non, pl_int, pl_bl, pl_str, pl_lst, pl_tup, pl_obj, pl_dct, pl_scr, pl_m, pl_p, fzm_non, fzm_int, fzm_bl, fzm_lst, fzm_tup, fzm_obj, fzm_scr, fzm_olst, fzm_oll, fzm_oobj, fzm_m, frz_non, frz_int, frz_bl, frz_str, frz_lst, frz_tup, frz_obj, frz_dct, frz_scr, frz_olst, frz_oll, frz_m, fz_no, fz_tr, see_no, see_tr, asB_bl, asI_int, asgD_non, asgD_int, asgD_bl, asgD_lst, asgD_tup, asgD_obj, asgD_mv, asgD_m, it_lst, it_olst, it_scr, li_lst, li_olst, pit_lst, pit_scr, sz_lst, sz_olst, sz_oll, sz_scr, sz_tup, ad_int, ad_ll, ad_oo, ad_lo, ad_ol, mu_int, mu_l, mu_o, gI_int, gI0_int, gI2_int, ii_eqv, co_int, co_bl, co_non, co_row, co_rowO, co_nil, co_nilO, co_ps, co_p, co_p2, co_rows, ev_ll, ev_ol, ev_lo, ev_oo, ev_ln, ev_lno, ev_on, ev_ono, in_ps, in_row, gEq, gNe, gIn, gNotIn, g1, g2, gLen, gList, δof, List.getElem?_cons_zero, List.getElem?_cons_succ, List.getElem?_nil, List.set_cons_zero, List.set_cons_succ, List.map_cons, List.map_nil, List.length_cons, List.length_nil, List.replicate_succ, List.replicate_zero, List.cons_append, List.nil_append, Option.bind_some, Option.bind_none, List.all_cons, List.all_nil, List.append_nil, Nat.reduceAdd, Nat.reduceSub, true_and, and_true, Bool.and_true, Bool.true_and]
    refine ⟨⟨by decide, by decide⟩, by omega, ?_⟩
    have m0 := fmod_nn (code.fdiv 3) (b := (ns.length : Int) + 1) (by omega)
    have m1 := fmod_lt (code.fdiv 3) (b := (ns.length : Int) + 1) (by omega)
    generalize (code.fdiv 3).fmod ((ns.length : Int) + 1) = kk at *
    intro is his
    rw [List.length_map] at his
    rw [pick_map]
    refine minds_f1 (K := K) (n := 1 + kk) (by omega) (by omega) (fun qs e4 e5 e6 e7 hq1 hq2 => ?_) _ [] _ _ _ _ (by have := pick_len ns is; simp; omega) (fun q hq => by cases hq)
    simp only [dSeq, dIfS, dT, dTn, dTa, dTo, dOp, dVar, dC, dFz_eq, dCB, dCons, dNil, dCall, dCallB, dMeth, dMethB, dSet, dApp, dExt, dRet, dRetM, dNx, dDrop, dNeg, dAnd, dOr, dNot, dIf, dCh, dCh3, dU, dTup, dLst, dFld, dIsi, dIl, dIe, dIr1, dIr2, dIv1, dgN, dgT, putAll, dFor, dPar2, dPar3, dSetT, dLc, dYes, dSl, dNo, dSome, dRev, dNev, dSset, dCount, dIndex, dLrg1, dLrg2, dTwo, un_non, un_int, un_bl, un_str, un_lst, un_tup, un_obj, un_dct, un_scr, un_olst, un_oll, un_oobj, un_mv, un_m, un_p, pl_non, pl_int, pl_bl, pl_str, pl_lst, pl_tup, pl_obj, pl_dct, pl_scr, pl_m, pl_p, fzm_non, fzm_int, fzm_bl, fzm_lst, fzm_tup, fzm_obj, fzm_scr, fzm_olst, fzm_oll, fzm_oobj, fzm_m, frz_non, frz_int, frz_bl, frz_str, frz_lst, frz_tup, frz_obj, frz_dct, frz_scr, frz_olst, frz_oll, frz_m, fz_no, fz_tr, see_no, see_tr, asB_bl, asI_int, asgD_non, asgD_int, asgD_bl, asgD_lst, asgD_tup, asgD_obj, asgD_mv, asgD_m, it_lst, it_olst, it_scr, li_lst, li_olst, pit_lst, pit_scr, sz_lst, sz_olst, sz_oll, sz_scr, sz_tup, ad_int, ad_ll, ad_oo, ad_lo, ad_ol, mu_int, mu_l, mu_o, gI_int, gI0_int, gI2_int, ii_eqv, co_int, co_bl, co_non, co_row, co_rowO, co_nil, co_nilO, co_ps, co_p, co_p2, co_rows, ev_ll, ev_ol, ev_lo, ev_oo, ev_ln, ev_lno, ev_on, ev_ono, in_ps, in_row, gEq, gNe, gIn, gNotIn, g1, g2, gLen, gList, δof, List.getElem?_cons_zero, List.getElem?_cons_succ, List.getElem?_nil, List.set_cons_zero, List.set_cons_succ, List.map_cons, List.map_nil, List.length_cons, List.length_nil, List.replicate_succ, List.replicate_zero, List.cons_append, List.nil_append, Option.bind_some, Option.bind_none, List.all_cons, List.all_nil, List.append_nil, Nat.reduceAdd, Nat.reduceSub, true_and, and_true, Bool.and_true, Bool.true_and, dSsetP]
    refine minds_c2 (K := K) qs [] _ (by simp; omega) ?_
    refine ⟨qs.filter fun q => decide (q.1 < q.2), rfl, Nat.lt_of_le_of_lt (List.length_filter_le _ _) hq1, fun q hq => ?_, fun rs nd mem => ?_⟩
    · have z := hq2 q (List.mem_filter.mp hq).1
      omega
    · refine ⟨by decide, h _ rs (by omega) (by omega) ⟨nd, ?_, fun q hq => ?_⟩⟩
      · have z := same_le nd (fun q hq => (mem q).mp hq)
        have := List.length_filter_le (fun q : Int × Int => decide (q.1 < q.2)) qs
        omega
      · have z := List.mem_filter.mp ((mem q).mp hq)
        have z2 := hq2 q z.1
        have z3 := of_decide_eq_true z.2
        omega
  · simp only [decide_eq_false c, dSeq, dIfS, dT, dTn, dTa, dTo, dOp, dVar, dC, dFz_eq, dCB, dCons, dNil, dCall, dCallB, dMeth, dMethB, dSet, dApp, dExt, dRet, dRetM, dNx, dDrop, dNeg, dAnd, dOr, dNot, dIf, dCh, dCh3, dU, dTup, dLst, dFld, dIsi, dIl, dIe, dIr1, dIr2, dIv1, dgN, dgT, putAll, dFor, dPar2, dPar3, dSetT, dLc, dYes, dSl, dNo, dSome, dRev, dNev, dSset, dCount, dIndex, dLrg1, dLrg2, dTwo, un_non, un_int, un_bl, un_str, un_lst, un_tup, un_obj, un_dct, un_scr, un_olst, un_oll, un_oobj, un_mv, un_m, un_p, pl_non, pl_int, pl_bl, pl_str, pl_lst, pl_tup, pl_obj, pl_dct, pl_scr, pl_m, pl_p, fzm_non, fzm_int, fzm_bl, fzm_lst, fzm_tup, fzm_obj, fzm_scr, fzm_olst, fzm_oll, fzm_oobj, fzm_m, frz_non, frz_int, frz_bl, frz_str, frz_lst, frz_tup, frz_obj, frz_dct, frz_scr, frz_olst, frz_oll, frz_m, fz_no, fz_tr, see_no, see_tr, asB_bl, asI_int, asgD_non, asgD_int, asgD_bl, asgD_lst, asgD_tup, asgD_obj, asgD_mv, asgD_m, it_lst, it_olst, it_scr, li_lst, li_olst, pit_lst, pit_scr, sz_lst, sz_olst, sz_oll, sz_scr, sz_tup, ad_int, ad_ll, ad_oo, ad_lo, ad_ol, mu_int, mu_l, mu_o, gI_int, gI0_int, gI2_int, ii_eqv, co_int, co_bl, co_non, co_row, co_rowO, co_nil, co_nilO, co_ps, co_p, co_p2, co_rows, ev_ll, ev_ol, ev_lo, ev_oo, ev_ln, ev_lno, ev_on, ev_ono, in_ps, in_row, gEq, gNe, gIn, gNotIn, g1, g2, gLen, gList, δof, List.getElem?_cons_zero, List.getElem?_cons_succ, List.getElem?_nil, List.set_cons_zero, List.set_cons_succ, List.map_cons, List.map_nil, List.length_cons, List.length_nil, List.replicate_succ, List.replicate_zero, List.cons_append, List.nil_append, Option.bind_some, Option.bind_none, List.all_cons, List.all_nil, List.append_nil, Nat.reduceAdd, Nat.reduceSub, true_and, and_true, Bool.and_true, Bool.true_and]
    refine ⟨by omega, by omega, ?_⟩
    rw [rng_map]
    refine minds_f4 (K := K) (n := 1 + k) (by omega) (fun code ps e5 e6 a b c => ?_) _ 0 code [] _ _ (rng_up _ _) (fun i hi => by have := rng_mem hi; omega) (by simp) (by rw [List.length_map, List.length_range]; simp; omega) (fun q hq => by cases hq)
    simp only [dSeq, dIfS, dT, dTn, dTa, dTo, dOp, dVar, dC, dFz_eq, dCB, dCons, dNil, dCall, dCallB, dMeth, dMethB, dSet, dApp, dExt, dRet, dRetM, dNx, dDrop, dNeg, dAnd, dOr, dNot, dIf, dCh, dCh3, dU, dTup, dLst, dFld, dIsi, dIl, dIe, dIr1, dIr2, dIv1, dgN, dgT, putAll, dFor, dPar2, dPar3, dSetT, dLc, dYes, dSl, dNo, dSome, dRev, dNev, dSset, dCount, dIndex, dLrg1, dLrg2, dTwo, un_non, un_int, un_bl, un_str, un_lst, un_tup, un_obj, un_dct, un_scr, un_olst, un_oll, un_oobj, un_mv, un_m, un_p, pl_non, pl_int, pl_bl, pl_str, pl_lst, pl_tup, pl_obj, pl_dct, pl_scr, pl_m, pl_p, fzm_non, fzm_int, fzm_bl, fzm_lst, fzm_tup, fzm_obj, fzm_scr, fzm_olst, fzm_oll, fzm_oobj, fzm_m, frz_non, frz_int, frz_bl, frz_str, frz_lst, frz_tup, frz_obj, frz_dct, frz_scr, frz_olst, frz_oll, frz_m, fz_no, fz_tr, see_no, see_tr, asB_bl, asI_int, asgD_non, asgD_int, asgD_bl, asgD_lst, asgD_tup, asgD_obj, asgD_mv, asgD_m, it_lst, it_olst, it_scr, li_lst, li_olst, pit_lst, pit_scr, sz_lst, sz_olst, sz_oll, sz_scr, sz_tup, ad_int, ad_ll, ad_oo, ad_lo, ad_ol, mu_int, mu_l, mu_o, gI_int, gI0_int, gI2_int, ii_eqv, co_int, co_bl, co_non, co_row, co_rowO, co_nil, co_nilO, co_ps, co_p, co_p2, co_rows, ev_ll, ev_ol, ev_lo, ev_oo, ev_ln, ev_lno, ev_on, ev_ono, in_ps, in_row, gEq, gNe, gIn, gNotIn, g1, g2, gLen, gList, δof, List.getElem?_cons_zero, List.getElem?_cons_succ, List.getElem?_nil, List.set_cons_zero, List.set_cons_succ, List.map_cons, List.map_nil, List.length_cons, List.length_nil, List.replicate_succ, List.replicate_zero, List.cons_append, List.nil_append, Option.bind_some, Option.bind_none, List.all_cons, List.all_nil, List.append_nil, Nat.reduceAdd, Nat.reduceSub, true_and, and_true, Bool.and_true, Bool.true_and]
    exact ⟨by decide, h _ ps (by omega) (by omega) ⟨a, by omega, c⟩⟩
end J
/-! M3: the same doing, by a walk -/
namespace J
open PySem PySem.Spec PyProof.Rows L2
/-! ### the same doing, by a walk -/
def sameB (m : Int → Int → Bool) : List Int → List Int → Bool
  | [], ys => decide (ys = [])
  | x :: xs, ys => if x ∈ ys then (if (ys.take (ys.idxOf x)).any (fun a => m x a) then false else sameB m xs (ys.take (ys.idxOf x) ++ ys.drop (ys.idxOf x + 1))) else false
theorem idx_mid {x : Int} {A B : List Int} (h : x ∉ A) : (A ++ x :: B).idxOf x = A.length := by
  rw [List.idxOf_append, if_neg h, List.idxOf_cons_self, Nat.zero_add]
theorem sameB_tr {m : Int → Int → Bool} (hm : Mi m) : ∀ {xs ys : List Int}, sameB m xs ys = true ↔ Tr m ys xs
  | [], ys => by
    unfold sameB
    rw [decide_eq_true_eq]
    constructor
    · intro h
      rw [h]
      exact .rfl _
    · intro h
      exact List.length_eq_zero_iff.mp h.len
  | x :: xs, ys => by
    unfold sameB
    by_cases hx : x ∈ ys
    · rw [if_pos hx]
      by_cases hf : Fi m x ys
      · obtain ⟨A, B, h⟩ := hf
        have e := h.1
        subst e
        have ne := h.ne hm
        have s1 : (A ++ x :: B).take ((A ++ x :: B).idxOf x) = A := by rw [idx_mid ne, List.take_left]
        have s2 : (A ++ x :: B).drop ((A ++ x :: B).idxOf x + 1) = B := by
          rw [idx_mid ne, List.drop_append]
          have e : A.length + 1 - A.length = 1 := by omega
          rw [e, List.drop_of_length_le (Nat.le_succ _)]
          rfl
        rw [s1, s2, if_neg (by
          rw [List.any_eq_true]
          rintro ⟨a, ha, e⟩
          rw [hm.s, h.2 a ha] at e
          cases e), sameB_tr hm]
        constructor
        · exact fun t => h.tr.trans (t.cons x)
        · intro t
          obtain ⟨A', B', h', t'⟩ := (Fs.same hm (t.symm hm) (A := []) (B := xs) ⟨rfl, fun a ha => by cases ha⟩)
          have l := pf_at hm h
          have l' := pf_at hm h'
          have e : A.length = A'.length := by omega
          have e2 := h'.1
          obtain ⟨rfl, e3⟩ := List.append_inj e2 e
          injection e3 with _ e3
          subst e3
          exact t'.symm hm
      · constructor
        · intro h
          exfalso
          apply hf
          obtain ⟨A, B, e⟩ : ∃ A B, ys = A ++ x :: B ∧ x ∉ A := by
            have e2 := (idxOf_split hx)
            exact e2
          obtain ⟨rfl, ne⟩ := e
          have s1 : (A ++ x :: B).take ((A ++ x :: B).idxOf x) = A := by rw [idx_mid ne, List.take_left]
          rw [s1] at h
          refine ⟨A, B, rfl, fun a ha => ?_⟩
          by_cases c : (A.any fun a => m x a) = true
          · rw [if_pos c] at h
            cases h
          · cases e : m a x with
            | false => rfl
            | true =>
              exact absurd (List.any_eq_true.mpr ⟨a, ha, by rw [hm.s]; exact e⟩) c
        · intro t
          exact absurd ((Fi.same hm (t.symm hm)) fi_head) hf
    · rw [if_neg hx]
      constructor
      · intro h
        cases h
      · intro t
        exact absurd (t.perm.mem_iff.mpr List.mem_cons_self) hx
where
  idxOf_split {x : Int} : ∀ {ys : List Int}, x ∈ ys → ∃ A B, ys = A ++ x :: B ∧ x ∉ A
    | y :: ys, h => by
      by_cases e : y = x
      · exact ⟨[], ys, by rw [e]; rfl, List.not_mem_nil⟩
      · rcases List.mem_cons.mp h with h | h
        · exact absurd h.symm e
        · obtain ⟨A, B, h1, h2⟩ := idxOf_split h
          refine ⟨y :: A, B, by rw [h1]; rfl, fun z => ?_⟩
          rcases List.mem_cons.mp z with z | z
          · exact e z.symm
          · exact h2 z
/-- any of a row's beginning minds -/
theorem any_c {ps : List (Int × Int)} {k : Int} {T : DE} {P : D → Prop} {j : Nat} {δ : List DV} (hT : ∀ (a : Int) (R : D → Prop), R (.bl (mnd ps k a)) → T (δ.set j (.tr (.int a))) R) : ∀ (xs : List Int) (acc : List D), acc.length + xs.length ≤ 1000 → P (.mv (.olst (acc ++ xs.map fun a => .bl (mnd ps k a)))) → compGo j dYes T P (xs.map .int) acc δ
  | [], acc, _, h => by
    rw [List.map_nil, List.append_nil] at h
    exact h
  | x :: xs, acc, hl, h => by
    rw [List.length_cons] at hl
    refine compGo_op fun N hN => ?_
    show T (δ.set j (.tr (.int x))) _
    refine hT x _ ⟨rfl, by omega, ?_⟩
    rw [hN]
    refine any_c hT xs _ (by rw [List.length_append, List.length_cons, List.length_nil]; omega) ?_
    rw [List.append_assoc]
    exact h
end J
/-! M2: what two rows have of two kinds; exchanges; plain -/
namespace J
/-- what a row has of two kinds -/
def prt (a b : Int) (xs : List Int) : List Int := xs.filter fun k => decide (k = a) || decide (k = b)
theorem prt_nil {a b : Int} : prt a b [] = [] := rfl
theorem prt_app {a b : Int} {xs ys : List Int} : prt a b (xs ++ ys) = prt a b xs ++ prt a b ys := List.filter_append ..
theorem prt_in {a b k : Int} {xs : List Int} (h : k = a ∨ k = b) : prt a b (k :: xs) = k :: prt a b xs := by
  unfold prt
  rw [List.filter_cons_of_pos]
  simpa using h
theorem prt_out {a b k : Int} {xs : List Int} (h : ¬ (k = a ∨ k = b)) : prt a b (k :: xs) = prt a b xs := by
  unfold prt
  rw [List.filter_cons_of_neg]
  simpa using h
theorem prt_comm {a b : Int} {xs : List Int} : prt a b xs = prt b a xs := by
  unfold prt
  congr 1
  funext k
  rw [Bool.or_comm]
theorem prt_none {a b : Int} {xs : List Int} (h : ∀ x ∈ xs, x ≠ a ∧ x ≠ b) : prt a b xs = [] := by
  unfold prt
  rw [List.filter_eq_nil_iff]
  intro x hx
  simp [h x hx]
theorem mem_prt {a b k : Int} {xs : List Int} : k ∈ prt a b xs ↔ k ∈ xs ∧ (k = a ∨ k = b) := by
  unfold prt
  rw [List.mem_filter]
  simp
theorem prt_left {a b : Int} {xs : List Int} (h : a ∉ xs) : prt a b xs = prt b b xs := by
  unfold prt
  refine List.filter_congr fun x hx => ?_
  have ne : x ≠ a := fun e => h (e ▸ hx)
  simp [ne]
section
variable {m : Int → Int → Bool}
/-- the same doing has the same of each two that mind each other -/
theorem Tr.prt (hm : Mi m) {xs ys : List Int} (h : Tr m xs ys) {a b : Int} (hab : m a b = true) : prt a b xs = prt a b ys := by
  induction h with
  | rfl => rfl
  | @swp zs A B c d e _ ih =>
    rw [← ih, prt_app, prt_app]
    congr 1
    by_cases hc : c = a ∨ c = b
    · by_cases hd : d = a ∨ d = b
      · exfalso
        have : m c d = true := by
          rcases hc with rfl | rfl <;> rcases hd with rfl | rfl
          · exact hm.r _
          · exact hab
          · rw [hm.s]; exact hab
          · exact hm.r _
        rw [e] at this
        cases this
      · rw [prt_in hc, prt_out hd, prt_out hd, prt_in hc]
    · rw [prt_out hc]
      by_cases hd : d = a ∨ d = b
      · rw [prt_in hd, prt_in hd, prt_out hc]
      · rw [prt_out hd, prt_out hd, prt_out hc]
theorem split_first {y : Int} : ∀ {xs : List Int}, y ∈ xs → ∃ A B, xs = A ++ y :: B ∧ y ∉ A
  | x :: xs, h => by
    by_cases e : x = y
    · exact ⟨[], xs, by rw [e]; rfl, List.not_mem_nil⟩
    · rcases List.mem_cons.mp h with h | h
      · exact absurd h.symm e
      · obtain ⟨A, B, h1, h2⟩ := split_first h
        refine ⟨x :: A, B, by rw [h1]; rfl, fun z => ?_⟩
        rcases List.mem_cons.mp z with z | z
        · exact e z.symm
        · exact h2 z
/-- .. and the other way -/
theorem tr_of_prt (hm : Mi m) : ∀ {ys xs : List Int}, (∀ a b, m a b = true → prt a b xs = prt a b ys) → Tr m xs ys
  | [], xs, h => by
    cases xs with
    | nil => exact .rfl _
    | cons x xs =>
      have z := h x x (hm.r x)
      rw [prt_in (.inl rfl)] at z
      cases z
  | y :: ys, xs, h => by
    have hy : y ∈ xs := by
      have z := h y y (hm.r y)
      rw [prt_in (.inl rfl)] at z
      have : y ∈ prt y y xs := by rw [z]; exact List.mem_cons_self
      exact (mem_prt.mp this).1
    obtain ⟨A, B, rfl, ny⟩ := split_first hy
    have free : ∀ a ∈ A, m a y = false := fun a ha => by
      cases e : m a y with
      | false => rfl
      | true =>
        exfalso
        have z := h a y e
        rw [prt_in (.inr rfl), prt_app] at z
        have hp : a ∈ prt a y A := mem_prt.mpr ⟨ha, .inl rfl⟩
        cases q : prt a y A with
        | nil => rw [q] at hp; cases hp
        | cons c r =>
          rw [q, List.cons_append] at z
          injection z with z1 _
          have hc : c ∈ prt a y A := by rw [q]; exact List.mem_cons_self
          rw [z1] at hc
          exact ny (mem_prt.mp hc).1
    refine (Tr.lead free).trans (.cons (tr_of_prt hm fun a b hab => ?_) y)
    have z := h a b hab
    rw [prt_app] at z ⊢
    by_cases hyab : y = a ∨ y = b
    · have nA : prt a b A = [] := prt_none fun x hx => by
        have f := free x hx
        refine ⟨fun e => ?_, fun e => ?_⟩
        · subst e
          rcases hyab with rfl | rfl
          · exact ny hx
          · rw [hab] at f
            cases f
        · subst e
          rcases hyab with rfl | rfl
          · rw [hm.s, hab] at f
            cases f
          · exact ny hx
      rw [nA, prt_in hyab, prt_in hyab] at z
      injection z with _ z
      rw [nA]
      exact z
    · rw [prt_out hyab, prt_out hyab] at z
      exact z
/-! ### couples -/
def cpl (m : Int → Int → Bool) (ks : List Int) : List (Int × Int) := (ks.map fun k => (k, k)) ++ ks.flatMap fun k => (ks.filter fun j => decide (k < j) && m k j).map fun j => (k, j)
theorem mem_cpl {ks : List Int} {a b : Int} : (a, b) ∈ cpl m ks ↔ a ∈ ks ∧ b ∈ ks ∧ (a = b ∨ (a < b ∧ m a b = true)) := by
  unfold cpl
  rw [List.mem_append]
  constructor
  · rintro (h | h)
    · obtain ⟨k, hk, e⟩ := List.mem_map.mp h
      cases e
      exact ⟨hk, hk, .inl rfl⟩
    · obtain ⟨k, hk, h⟩ := List.mem_flatMap.mp h
      obtain ⟨j, hj, e⟩ := List.mem_map.mp h
      cases e
      have z := List.mem_filter.mp hj
      exact ⟨hk, z.1, .inr (by simpa using z.2)⟩
  · rintro ⟨h1, h2, rfl | ⟨h3, h4⟩⟩
    · exact .inl (List.mem_map.mpr ⟨a, h1, rfl⟩)
    · exact .inr (List.mem_flatMap.mpr ⟨a, h1, List.mem_map.mpr ⟨b, List.mem_filter.mpr ⟨h2, by simp [h3, h4]⟩, rfl⟩⟩)
theorem cpl_mi (hm : Mi m) {ks : List Int} {c : Int × Int} (h : c ∈ cpl m ks) : c.1 ≤ c.2 ∧ m c.1 c.2 = true := by
  obtain ⟨_, _, z⟩ := mem_cpl.mp (show (c.1, c.2) ∈ cpl m ks from h)
  rcases z with e | ⟨e, f⟩
  · exact ⟨by omega, by rw [e]; exact hm.r _⟩
  · exact ⟨by omega, f⟩
/-- all couples agree: any two that mind each other do -/
theorem all_cpl (hm : Mi m) {xs ys : List Int} {R : List Int → List Int → Prop} (hnil : R [] []) (h : ∀ c ∈ cpl m (uni (xs ++ ys)), R (prt c.1 c.2 xs) (prt c.1 c.2 ys)) (a b : Int) (hab : m a b = true) : R (prt a b xs) (prt a b ys) := by
  have key : ∀ a b : Int, a ∈ xs ++ ys → b ∈ xs ++ ys → m a b = true → R (prt a b xs) (prt a b ys) := fun a b ha hb hab => by
    rcases Int.lt_trichotomy a b with c | c | c
    · exact h (a, b) (mem_cpl.mpr ⟨mem_uni.mpr ha, mem_uni.mpr hb, .inr ⟨c, hab⟩⟩)
    · exact h (a, b) (mem_cpl.mpr ⟨mem_uni.mpr ha, mem_uni.mpr hb, .inl c⟩)
    · have z := h (b, a) (mem_cpl.mpr ⟨mem_uni.mpr hb, mem_uni.mpr ha, .inr ⟨c, by rw [hm.s]; exact hab⟩⟩)
      rw [prt_comm, prt_comm (xs := ys)] at z
      exact z
  have out : ∀ a : Int, ¬ a ∈ xs ++ ys → a ∉ xs ∧ a ∉ ys := fun a ha => ⟨fun z => ha (List.mem_append_left _ z), fun z => ha (List.mem_append_right _ z)⟩
  by_cases ha : a ∈ xs ++ ys
  · by_cases hb : b ∈ xs ++ ys
    · exact key a b ha hb hab
    · obtain ⟨h1, h2⟩ := out b hb
      rw [prt_comm, prt_comm (xs := ys), prt_left h1, prt_left h2]
      exact key a a ha ha (hm.r a)
  · obtain ⟨h1, h2⟩ := out a ha
    rw [prt_left h1, prt_left h2]
    by_cases hb : b ∈ xs ++ ys
    · exact key b b hb hb (hm.r b)
    · obtain ⟨h3, h4⟩ := out b hb
      rw [prt_none (a := b) (b := b) fun x hx => ⟨fun e => h3 (e ▸ hx), fun e => h3 (e ▸ hx)⟩, prt_none (a := b) (b := b) fun x hx => ⟨fun e => h4 (e ▸ hx), fun e => h4 (e ▸ hx)⟩]
      exact hnil
/-! ### exchanges -/
def xs1 (m : Int → Int → Bool) : Nat → List Int → Option (List Int)
  | 0, a :: b :: r => if m a b then none else some (b :: a :: r)
  | p + 1, a :: r => (xs1 m p r).map (a :: ·)
  | _, _ => none
def xst (m : Int → Int → Bool) (p : Int) (xs : List Int) : Option (List Int) := if p < 0 then none else xs1 m p.toNat xs
def xchs (m : Int → Int → Bool) : List Int → List Int → Option (List Int)
  | [], xs => some xs
  | p :: ps, xs => (xst m p xs).bind (xchs m ps)
theorem xs1_mid {a b : Int} {B : List Int} : ∀ {A : List Int}, xs1 m A.length (A ++ a :: b :: B) = if m a b then none else some (A ++ b :: a :: B)
  | [] => rfl
  | c :: A => by
    show (xs1 m A.length (A ++ a :: b :: B)).map (c :: ·) = _
    rw [xs1_mid]
    split <;> rfl
theorem xs1_off : ∀ {xs : List Int} {p : Nat}, xs.length ≤ p + 1 → xs1 m p xs = none
  | [], 0, _ => rfl
  | [], p + 1, _ => rfl
  | [a], 0, _ => rfl
  | a :: b :: r, 0, h => by simp at h
  | a :: r, p + 1, h => by
    show (xs1 m p r).map (a :: ·) = none
    rw [xs1_off (by simpa using h)]
    rfl
theorem xst_len {p : Int} {xs ys : List Int} (h : xst m p xs = some ys) : ys.length = xs.length := by
  unfold xst at h
  split at h
  · cases h
  · by_cases c : p.toNat + 1 < xs.length
    · obtain ⟨A, a, b, B, rfl, e⟩ := split_at c
      rw [← e, xs1_mid] at h
      split at h
      · cases h
      · cases h
        simp
    · rw [xs1_off (by omega)] at h
      cases h
theorem xst_tr {p : Int} {xs ys : List Int} (h : xst m p xs = some ys) : Tr m xs ys := by
  unfold xst at h
  split at h
  · cases h
  · by_cases c : p.toNat + 1 < xs.length
    · obtain ⟨A, a, b, B, rfl, e⟩ := split_at c
      rw [← e, xs1_mid] at h
      split at h
      · cases h
      · cases h
        rename_i hm
        exact .one (by simpa using hm)
    · rw [xs1_off (by omega)] at h
      cases h
theorem xchs_app {ps qs xs : List Int} : xchs m (ps ++ qs) xs = (xchs m ps xs).bind (xchs m qs) := by
  induction ps generalizing xs with
  | nil => rfl
  | cons p ps ih =>
    show (xst m p xs).bind (xchs m (ps ++ qs)) = ((xst m p xs).bind (xchs m ps)).bind (xchs m qs)
    cases xst m p xs with
    | none => rfl
    | some ys => exact ih
theorem xchs_neg {ps xs : List Int} {p : Int} (h : p < 0) : xchs m (ps ++ [p]) xs = none := by
  rw [xchs_app]
  cases xchs m ps xs with
  | none => rfl
  | some ys =>
    show (xst m p ys).bind (xchs m []) = none
    unfold xst
    rw [if_pos h]
    rfl
theorem rvs_nil (m : Int) : rvs m m = [] := by
  unfold rvs
  rw [Int.sub_self]
  rfl
theorem rvs_succ (s n : Nat) : rvs (s : Int) ((s + (n + 1) : Nat) : Int) = ((s + n : Nat) : Int) :: rvs (s : Int) ((s + n : Nat) : Int) := by
  unfold rvs
  have e1 : (((s + (n + 1) : Nat) : Int) - (s : Int)).toNat = n + 1 := by omega
  have e2 : (((s + n : Nat) : Int) - (s : Int)).toNat = n := by omega
  rw [e1, e2, List.range_succ_eq_map, List.map_cons, List.map_map]
  congr 1
  · omega
  · refine List.map_congr_left fun i _ => ?_
    show (s : Int) + ((n + 1 : Nat) : Int) - 1 + ((i + 1 : Nat) : Int) * (-1) = (s : Int) + (n : Int) - 1 + (i : Int) * (-1)
    omega
/-- leading a deed ahead, exchange by exchange -/
theorem xchs_lead {y : Int} {C : List Int} : ∀ (n : Nat) {A B : List Int}, A.length = n → (∀ a ∈ A, m a y = false) → xchs m (rvs (C.length : Int) ((C.length + n : Nat) : Int)) (C ++ (A ++ y :: B)) = some (C ++ y :: (A ++ B))
  | 0, A, B, hl, _ => by
    rw [List.length_eq_zero_iff.mp hl, Nat.add_zero, rvs_nil]
    rfl
  | n + 1, A, B, hl, h => by
    rcases List.eq_nil_or_concat A with e | ⟨A', a, rfl⟩
    · rw [e] at hl
      cases hl
    · rw [List.concat_eq_append] at *
      rw [List.length_append, List.length_cons, List.length_nil] at hl
      have lA : A'.length = n := by omega
      rw [rvs_succ]
      show (xst m ((C.length + n : Nat) : Int) (C ++ (A' ++ [a] ++ y :: B))).bind (xchs m _) = _
      have e1 : C ++ (A' ++ [a] ++ y :: B) = (C ++ A') ++ a :: y :: B := by simp
      have e2 : C.length + n = (C ++ A').length := by rw [List.length_append, lA]
      unfold xst
      rw [if_neg (by omega), Int.toNat_natCast, e1]
      conv => lhs; rw [e2]
      rw [xs1_mid, if_neg (by rw [h a (by simp)]; decide)]
      show xchs m (rvs (C.length : Int) (((C ++ A').length : Nat) : Int)) ((C ++ A') ++ y :: a :: B) = _
      rw [← e2]
      have z := xchs_lead (C := C) n (A := A') (B := a :: B) lA fun b hb => h b (List.mem_append_left _ hb)
      rw [List.append_assoc]
      rw [z]
      simp
/-! ### led -/
def ldo (m : Int → Int → Bool) : Nat → List Int → List Int → Option (List Int)
  | _, _, [] => some []
  | i, xs, y :: ys => if 0 ≤ pf m y xs 0 then (ldo m (i + 1) (xs.eraseIdx (pf m y xs 0).toNat) ys).map fun r => rvs (i : Int) ((i : Int) + pf m y xs 0) ++ r else none
def ledF (m : Int → Int → Bool) (xs ys : List Int) : Option (List Int) := if xs.length = ys.length then ldo m 0 xs ys else none
theorem ldo_cons (hm : Mi m) {i : Nat} {xs ys A B : List Int} {y : Int} (h : Fs m y xs A B) : ldo m i xs (y :: ys) = (ldo m (i + 1) (A ++ B) ys).map fun r => rvs (i : Int) ((i + A.length : Nat) : Int) ++ r := by
  show (if 0 ≤ pf m y xs 0 then _ else none) = _
  rw [pf_at hm h, if_pos (by omega), Int.toNat_natCast, h.erase]
  rfl
theorem ldo_none (hm : Mi m) {i : Nat} {xs ys : List Int} {y : Int} (h : ¬ Fi m y xs) : ldo m i xs (y :: ys) = none := by
  show (if 0 ≤ pf m y xs 0 then _ else none) = _
  rw [if_neg fun z => h ((pf_ge hm).mp z)]
theorem tr_cons_iff (hm : Mi m) {y : Int} {xs ys A B : List Int} (h : Fs m y xs A B) : Tr m xs (y :: ys) ↔ Tr m (A ++ B) ys := by
  constructor
  · intro t
    obtain ⟨A', B', h', t'⟩ := h.same hm t
    have l := pf_at hm h'
    have e : pf m y (y :: ys) 0 = 0 := by simp [pf]
    rw [e] at l
    have e2 := List.length_eq_zero_iff.mp (show A'.length = 0 by omega)
    rw [e2] at t'
    have e3 := h'.1
    rw [e2] at e3
    injection e3 with _ e3
    rw [e3]
    exact t'
  · exact fun t => h.tr.trans (t.cons y)
theorem ldo_tr (hm : Mi m) : ∀ {ys xs : List Int} {i : Nat}, xs.length = ys.length → ((ldo m i xs ys).isSome = true ↔ Tr m xs ys)
  | [], xs, i, hl => by
    rw [List.length_eq_zero_iff.mp hl]
    exact ⟨fun _ => .rfl _, fun _ => rfl⟩
  | y :: ys, xs, i, hl => by
    by_cases hf : Fi m y xs
    · obtain ⟨A, B, h⟩ := hf
      have l2 : (A ++ B).length = ys.length := by
        rw [h.1, List.length_append, List.length_cons, List.length_cons] at hl
        rw [List.length_append]
        omega
      rw [ldo_cons hm h, Option.isSome_map, ldo_tr hm l2, tr_cons_iff hm h]
    · rw [ldo_none hm hf]
      constructor
      · intro h
        cases h
      · intro t
        exact absurd (Fi.same hm (t.symm hm) fi_head) hf
theorem ledF_tr (hm : Mi m) {xs ys : List Int} : (ledF m xs ys).isSome = true ↔ Tr m xs ys := by
  unfold ledF
  by_cases e : xs.length = ys.length
  · rw [if_pos e, ldo_tr hm e]
  · rw [if_neg e]
    exact ⟨fun h => absurd h Bool.false_ne_true, fun t => absurd t.len e⟩
theorem ldo_xch (hm : Mi m) : ∀ {ys xs pl C : List Int}, xs.length = ys.length → ldo m C.length xs ys = some pl → xchs m pl (C ++ xs) = some (C ++ ys)
  | [], xs, pl, C, hl, h => by
    rw [List.length_eq_zero_iff.mp hl]
    have e : ([] : List Int) = pl := Option.some.inj h
    rw [← e]
    rfl
  | y :: ys, xs, pl, C, hl, h => by
    by_cases hf : Fi m y xs
    · obtain ⟨A, B, hs⟩ := hf
      have l2 : (A ++ B).length = ys.length := by
        rw [hs.1, List.length_append, List.length_cons, List.length_cons] at hl
        rw [List.length_append]
        omega
      rw [ldo_cons hm hs] at h
      cases q : ldo m (C.length + 1) (A ++ B) ys with
      | none => rw [q] at h; cases h
      | some r =>
        rw [q] at h
        have e : rvs (C.length : Int) ((C.length + A.length : Nat) : Int) ++ r = pl := Option.some.inj h
        rw [← e, xchs_app, hs.1, xchs_lead A.length rfl hs.2]
        show xchs m r (C ++ y :: (A ++ B)) = _
        have z := ldo_xch hm (C := C ++ [y]) l2 (by rw [List.length_append, List.length_cons, List.length_nil]; exact q)
        rw [List.append_assoc, List.append_assoc] at z
        exact z
    · rw [ldo_none hm hf] at h
      cases h
theorem ledF_xch (hm : Mi m) {xs ys pl : List Int} (h : ledF m xs ys = some pl) : xchs m pl xs = some ys := by
  unfold ledF at h
  by_cases e : xs.length = ys.length
  · rw [if_pos e] at h
    exact ldo_xch hm (C := []) e h
  · rw [if_neg e] at h
    cases h
theorem ldo_len (hm : Mi m) : ∀ {ys xs r : List Int} {i M : Nat}, xs.length ≤ M → ldo m i xs ys = some r → r.length ≤ ys.length * M
  | [], xs, r, i, M, hl, h => by
    have e : ([] : List Int) = r := Option.some.inj h
    rw [← e]
    exact Nat.zero_le _
  | y :: ys, xs, r, i, M, hl, h => by
    by_cases hf : Fi m y xs
    · obtain ⟨A, B, hs⟩ := hf
      rw [ldo_cons hm hs] at h
      have lx : xs.length = A.length + B.length + 1 := by
        rw [hs.1, List.length_append, List.length_cons]
        omega
      cases q : ldo m (i + 1) (A ++ B) ys with
      | none => rw [q] at h; cases h
      | some r2 =>
        rw [q] at h
        have e : rvs (i : Int) ((i + A.length : Nat) : Int) ++ r2 = r := Option.some.inj h
        have z := ldo_len hm (M := M) (by rw [List.length_append]; omega) q
        have w : (rvs (i : Int) ((i + A.length : Nat) : Int)).length = A.length := by
          unfold rvs
          rw [List.length_map, List.length_range]
          omega
        rw [← e, List.length_append, w, List.length_cons, Nat.succ_mul]
        omega
    · rw [ldo_none hm hf] at h
      cases h
theorem ledF_len (hm : Mi m) {xs ys pl : List Int} (h : ledF m xs ys = some pl) : pl.length ≤ ys.length * xs.length := by
  unfold ledF at h
  split at h
  · exact ldo_len hm (Nat.le_refl _) h
  · cases h
/-- the exchanges show that the two are the same -/
def shw (m : Int → Int → Bool) (pl xs ys : List Int) : Bool := match xchs m pl xs with
  | some zs => decide (zs = ys)
  | none => false
end
end J
/-! P4: the program's defs over two rows -/
namespace J
open PySem PySem.Spec PyProof.Rows L2
/-! ### comprehensions -/
theorem cg {α : Type} {j : Nat} {Tt : DT} {Te : DE} {P : D → Prop} {δ : List DV} {p : α → Bool} {f g : α → D} : ∀ (xs : List α), (∀ x ∈ xs, ∀ R : Bool → Prop, R (p x) → Tt (δ.set j (.tr (g x))) R) → (∀ x ∈ xs, ∀ R : D → Prop, R (f x) → Te (δ.set j (.tr (g x))) R) → (∀ x, (f x).plain = true) → ∀ acc : List D, acc.length + xs.length ≤ 100000 →
    P (.mv (.olst (acc ++ (xs.filter p).map f))) → compGo j Tt Te P (xs.map g) acc δ
  | [], _, _, _, acc, _, h => by
    rw [List.filter_nil, List.map_nil, List.append_nil] at h
    exact h
  | x :: xs, ht, he, hf, acc, hl, h => by
    rw [List.length_cons] at hl
    refine compGo_op fun N hN => ?_
    refine ht x List.mem_cons_self _ ?_
    cases e : p x with
    | true =>
      rw [List.filter_cons_of_pos e] at h
      refine he x List.mem_cons_self _ ⟨hf x, by omega, ?_⟩
      rw [hN]
      refine cg xs (fun y hy => ht y (List.mem_cons_of_mem _ hy)) (fun y hy => he y (List.mem_cons_of_mem _ hy)) hf _ (by rw [List.length_append, List.length_cons, List.length_nil]; omega) ?_
      rw [List.append_assoc]
      exact h
    | false =>
      rw [List.filter_cons_of_neg (by rw [e]; decide)] at h
      show N acc δ
      rw [hN]
      exact cg xs (fun y hy => ht y (List.mem_cons_of_mem _ hy)) (fun y hy => he y (List.mem_cons_of_mem _ hy)) hf _ (by omega) h
theorem cg0 {α : Type} {j : Nat} {Te : DE} {P : D → Prop} {δ : List DV} {f g : α → D} (xs : List α) (he : ∀ x ∈ xs, ∀ R : D → Prop, R (f x) → Te (δ.set j (.tr (g x))) R) (hf : ∀ x, (f x).plain = true) (acc : List D) (hl : acc.length + xs.length ≤ 100000)
    (h : P (.mv (.olst (acc ++ xs.map f)))) : compGo j dYes Te P (xs.map g) acc δ :=
  cg (p := fun _ => true) xs (fun _ _ R hR => hR) he hf acc hl (by rw [List.filter_eq_self.mpr fun _ _ => rfl]; exact h)
theorem in_t {i j k : Int} {P : D → Prop} : gInT (.int i) (.tup [.int j, .int k]) P = P (.bl (decide (i = j) || decide (i = k))) := rfl
theorem ev_bb {p q : Bool} : PyData.eqv (D.py (.bl p)) (D.py (.bl q)) = (p == q) := rfl
theorem is_bb {f : Bool → Bool → Bool} {p q : Bool} {P : D → Prop} : gIs f (.bl p) (.bl q) P = P (.bl (f p q)) := rfl
theorem nn_mv {ds : List D} : D.isNon (.mv (.olst ds)) = false := rfl
theorem nn_lst {ds : List D} : D.isNon (.lst ds) = false := rfl
theorem nn_olst {ds : List D} : D.isNon (.olst ds) = false := rfl
theorem nn_tup {ds : List D} : D.isNon (.tup ds) = false := rfl
theorem nn_non : D.isNon .non = true := rfl
def kB (n x : Int) : Bool := decide (0 ≤ x ∧ x < n)
theorem kB_all {n : Int} {xs : List Int} : xs.all (kB n) = true ↔ Kinds n xs := by
  rw [List.all_eq_true]
  constructor
  · intro h x hx
    exact of_decide_eq_true (h x hx)
  · intro h x hx
    exact decide_eq_true (h x hx)
/-! ### part_of -/
def G_part_of (_K : PySem.W.Frag) : GD := fun ds P => ∃ xs a b, ds = [rD xs, .int a, .int b] ∧ xs.length ≤ 1000 ∧ P (.mv (.olst ((prt a b xs).map .int)))
/-! ### part_of -/
abbrev N_part_of : List Str := ["row", "one", "other", "kind"]
def T_part_of_c1 (K : PySem.W.Frag) : DE := (dVar 3)
def T_part_of_c1t (K : PySem.W.Frag) : DT := (dT (dOp gInT (dVar 3) (dTup (dCons (dVar 1) (dCons (dVar 2) dNil)))))
def T_part_of (K : PySem.W.Frag) : DS := (dRet (dLc 3 (dIl (dVar 0)) (T_part_of_c1t K) (T_part_of_c1 K)))
theorem rd_part_of {K : PySem.W.Frag} : ∀ ds Q, G_part_of K ds Q → T_part_of K { nx := fun _ => Q .non, rt := Q } (δof N_part_of.length ds) := by
  rintro _ Q ⟨xs, a, b, rfl, hl, h⟩
  simp only [T_part_of, rD, dSeq, dIfS, dT, dTn, dTa, dTo, dOp, dVar, dC, dFz_eq, dCB, dCons, dNil, dCall, dCallB, dMeth, dMethB, dSet, dApp, dExt, dRet, dRetM, dNx, dDrop, dNeg, dAnd, dOr, dNot, dIf, dCh, dCh3, dU, dTup, dLst, dFld, dIsi, dIl, dIe, dIr1, dIr2, dIv1, dgN, dgT, putAll, dFor, dPar2, dPar3, dSetT, dLc, dYes, dSl, dNo, dSome, dRev, dNev, dSset, dCount, dIndex, dLrg1, dLrg2, dTwo, un_non, un_int, un_bl, un_str, un_lst, un_tup, un_obj, un_dct, un_scr, un_olst, un_oll, un_oobj, un_mv, un_m, un_p, pl_non, pl_int, pl_bl, pl_str, pl_lst, pl_tup, pl_obj, pl_dct, pl_scr, pl_m, pl_p, fzm_non, fzm_int, fzm_bl, fzm_lst, fzm_tup, fzm_obj, fzm_scr, fzm_olst, fzm_oll, fzm_oobj, fzm_m, frz_non, frz_int, frz_bl, frz_str, frz_lst, frz_tup, frz_obj, frz_dct, frz_scr, frz_olst, frz_oll, frz_m, fz_no, fz_tr, see_no, see_tr, asB_bl, asI_int, asgD_non, asgD_int, asgD_bl, asgD_lst, asgD_tup, asgD_obj, asgD_mv, asgD_m, it_lst, it_olst, it_scr, li_lst, li_olst, pit_lst, pit_scr, sz_lst, sz_olst, sz_oll, sz_scr, sz_tup, ad_int, ad_ll, ad_oo, ad_lo, ad_ol, mu_int, mu_l, mu_o, gI_int, gI0_int, gI2_int, ii_eqv, co_int, co_bl, co_non, co_row, co_rowO, co_nil, co_nilO, co_ps, co_p, co_p2, co_rows, ev_ll, ev_ol, ev_lo, ev_oo, ev_ln, ev_lno, ev_on, ev_ono, in_ps, in_row, gEq, gNe, gIn, gNotIn, g1, g2, gLen, gList, δof, List.getElem?_cons_zero, List.getElem?_cons_succ, List.getElem?_nil, List.set_cons_zero, List.set_cons_succ, List.map_cons, List.map_nil, List.length_cons, List.length_nil, List.replicate_succ, List.replicate_zero, List.cons_append, List.nil_append, Option.bind_some, Option.bind_none, List.all_cons, List.all_nil, List.append_nil, Nat.reduceAdd, Nat.reduceSub, true_and, and_true, Bool.and_true, Bool.true_and]
  refine cg (p := fun k => decide (k = a) || decide (k = b)) (f := D.int) xs (fun x _ R hR => ?_) (fun x _ R hR => ?_) (fun _ => rfl) [] (by rw [List.length_nil]; omega) h
  · simp only [T_part_of_c1t, dSeq, dIfS, dT, dTn, dTa, dTo, dOp, dVar, dC, dFz_eq, dCB, dCons, dNil, dCall, dCallB, dMeth, dMethB, dSet, dApp, dExt, dRet, dRetM, dNx, dDrop, dNeg, dAnd, dOr, dNot, dIf, dCh, dCh3, dU, dTup, dLst, dFld, dIsi, dIl, dIe, dIr1, dIr2, dIv1, dgN, dgT, putAll, dFor, dPar2, dPar3, dSetT, dLc, dYes, dSl, dNo, dSome, dRev, dNev, dSset, dCount, dIndex, dLrg1, dLrg2, dTwo, un_non, un_int, un_bl, un_str, un_lst, un_tup, un_obj, un_dct, un_scr, un_olst, un_oll, un_oobj, un_mv, un_m, un_p, pl_non, pl_int, pl_bl, pl_str, pl_lst, pl_tup, pl_obj, pl_dct, pl_scr, pl_m, pl_p, fzm_non, fzm_int, fzm_bl, fzm_lst, fzm_tup, fzm_obj, fzm_scr, fzm_olst, fzm_oll, fzm_oobj, fzm_m, frz_non, frz_int, frz_bl, frz_str, frz_lst, frz_tup, frz_obj, frz_dct, frz_scr, frz_olst, frz_oll, frz_m, fz_no, fz_tr, see_no, see_tr, asB_bl, asI_int, asgD_non, asgD_int, asgD_bl, asgD_lst, asgD_tup, asgD_obj, asgD_mv, asgD_m, it_lst, it_olst, it_scr, li_lst, li_olst, pit_lst, pit_scr, sz_lst, sz_olst, sz_oll, sz_scr, sz_tup, ad_int, ad_ll, ad_oo, ad_lo, ad_ol, mu_int, mu_l, mu_o, gI_int, gI0_int, gI2_int, ii_eqv, co_int, co_bl, co_non, co_row, co_rowO, co_nil, co_nilO, co_ps, co_p, co_p2, co_rows, ev_ll, ev_ol, ev_lo, ev_oo, ev_ln, ev_lno, ev_on, ev_ono, in_ps, in_row, gEq, gNe, gIn, gNotIn, g1, g2, gLen, gList, δof, List.getElem?_cons_zero, List.getElem?_cons_succ, List.getElem?_nil, List.set_cons_zero, List.set_cons_succ, List.map_cons, List.map_nil, List.length_cons, List.length_nil, List.replicate_succ, List.replicate_zero, List.cons_append, List.nil_append, Option.bind_some, Option.bind_none, List.all_cons, List.all_nil, List.append_nil, Nat.reduceAdd, Nat.reduceSub, true_and, and_true, Bool.and_true, Bool.true_and, in_t]
    exact ⟨by decide, hR⟩
  · simp only [T_part_of_c1, dSeq, dIfS, dT, dTn, dTa, dTo, dOp, dVar, dC, dFz_eq, dCB, dCons, dNil, dCall, dCallB, dMeth, dMethB, dSet, dApp, dExt, dRet, dRetM, dNx, dDrop, dNeg, dAnd, dOr, dNot, dIf, dCh, dCh3, dU, dTup, dLst, dFld, dIsi, dIl, dIe, dIr1, dIr2, dIv1, dgN, dgT, putAll, dFor, dPar2, dPar3, dSetT, dLc, dYes, dSl, dNo, dSome, dRev, dNev, dSset, dCount, dIndex, dLrg1, dLrg2, dTwo, un_non, un_int, un_bl, un_str, un_lst, un_tup, un_obj, un_dct, un_scr, un_olst, un_oll, un_oobj, un_mv, un_m, un_p, pl_non, pl_int, pl_bl, pl_str, pl_lst, pl_tup, pl_obj, pl_dct, pl_scr, pl_m, pl_p, fzm_non, fzm_int, fzm_bl, fzm_lst, fzm_tup, fzm_obj, fzm_scr, fzm_olst, fzm_oll, fzm_oobj, fzm_m, frz_non, frz_int, frz_bl, frz_str, frz_lst, frz_tup, frz_obj, frz_dct, frz_scr, frz_olst, frz_oll, frz_m, fz_no, fz_tr, see_no, see_tr, asB_bl, asI_int, asgD_non, asgD_int, asgD_bl, asgD_lst, asgD_tup, asgD_obj, asgD_mv, asgD_m, it_lst, it_olst, it_scr, li_lst, li_olst, pit_lst, pit_scr, sz_lst, sz_olst, sz_oll, sz_scr, sz_tup, ad_int, ad_ll, ad_oo, ad_lo, ad_ol, mu_int, mu_l, mu_o, gI_int, gI0_int, gI2_int, ii_eqv, co_int, co_bl, co_non, co_row, co_rowO, co_nil, co_nilO, co_ps, co_p, co_p2, co_rows, ev_ll, ev_ol, ev_lo, ev_oo, ev_ln, ev_lno, ev_on, ev_ono, in_ps, in_row, gEq, gNe, gIn, gNotIn, g1, g2, gLen, gList, δof, List.getElem?_cons_zero, List.getElem?_cons_succ, List.getElem?_nil, List.set_cons_zero, List.set_cons_succ, List.map_cons, List.map_nil, List.length_cons, List.length_nil, List.replicate_succ, List.replicate_zero, List.cons_append, List.nil_append, Option.bind_some, Option.bind_none, List.all_cons, List.all_nil, List.append_nil, Nat.reduceAdd, Nat.reduceSub, true_and, and_true, Bool.and_true, Bool.true_and]
    exact hR
/-! ### led -/
def G_led (K : PySem.W.Frag) : GD := fun ds P => ∃ n ps xs ys, ds = [mK K n ps, rD xs, rD ys] ∧ xs.length ≤ 200 ∧ ys.length ≤ 200 ∧ (match ledF (mnd ps) xs ys with
  | none => P .non
  | some pl => P (.mv (.olst (pl.map .int))))
/-! ### led -/
abbrev N_led : List Str := ["minds", "one", "other", "places", "now", "at", "kind", "place"]
def T_led_f1 (K : PySem.W.Frag) : DS := (dSeq (dSet 7 (dFz (dCall (G_place_first K) (dCons (dVar 0) (dCons (dFz (dSl (dVar 4) (dSome (dVar 5)) dNo)) (dCons (dVar 6) dNil))))))
  (dSeq (dIfS (dT (dOp gLt (dVar 7) (dC (.int 0)))) (dRet (dC .non)) dNx)
  (dSeq (dSet 4 (dFz (dOp gAdd (dOp gAdd (dSl (dVar 4) dNo (dSome (dVar 5))) (dLst (dCons (dVar 6) dNil))) (dCall (G_without K) (dCons (dFz (dSl (dVar 4) (dSome (dVar 5)) dNo)) (dCons (dVar 7) dNil))))))
  (dExt 3 (dLrv2 (dVar 5) (dOp gAdd (dVar 5) (dVar 7)))))))
def T_led (K : PySem.W.Frag) : DS := (dSeq (dIfS (dT (dOp gNe (dCB gLen (dCons (dVar 1) dNil)) (dCB gLen (dCons (dVar 2) dNil)))) (dRet (dC .non)) dNx)
  (dSeq (dSet 3 (dLst dNil))
  (dSeq (dSet 4 (dFz (dCB gList (dCons (dVar 1) dNil))))
  (dSeq (dFor (dIe (dCons (dVar 2) dNil)) (dgT [5, 6]) (T_led_f1 K))
  (dRetM 3)))))
theorem rvs_len (a b : Int) : (rvs a b).length = (b - a).toNat := by
  unfold rvs
  rw [List.length_map, List.length_range]
theorem led_f {K : PySem.W.Frag} {n : Int} {ps : List (Int × Int)} {one other : D} {E : EndsD} : ∀ (ys C rest acc : List Int) (e5 e6 e7 : DV), rest.length = ys.length → C.length + ys.length ≤ 200 → acc.length ≤ C.length * 200 →
    (match ldo (mnd ps) C.length rest ys with
      | none => E.rt .non
      | some r => ∀ e4 e5 e6 e7, E.nx [.tr (mK K n ps), .tr one, .tr other, .tr (.olst ((acc ++ r).map .int)), e4, e5, e6, e7]) →
    forGo (dgT [5, 6]) (T_led_f1 K) E (((ys.map D.int).zipIdx C.length).map fun p => D.tup [.int (p.2 : Int), p.1]) [.tr (mK K n ps), .tr one, .tr other, .tr (.olst (acc.map .int)), .tr (rD (C ++ rest)), e5, e6, e7]
  | [], C, rest, acc, e5, e6, e7, hl, hc, ha, h => by
    have z := h (.tr (rD (C ++ rest))) e5 e6 e7
    rw [List.append_nil] at z
    exact z
  | y :: ys, C, rest, acc, e5, e6, e7, hl, hc, ha, h => by
    rw [List.length_cons] at hl hc
    rw [List.map_cons, List.zipIdx_cons, List.map_cons]
    refine forGo_op fun N hN => ?_
    simp only [T_led_f1, mK, rD, dSeq, dIfS, dT, dTn, dTa, dTo, dOp, dVar, dC, dFz_eq, dCB, dCons, dNil, dCall, dCallB, dMeth, dMethB, dSet, dApp, dExt, dRet, dRetM, dNx, dDrop, dNeg, dAnd, dOr, dNot, dIf, dCh, dCh3, dU, dTup, dLst, dFld, dIsi, dIl, dIe, dIr1, dIr2, dIv1, dgN, dgT, putAll, dFor, dPar2, dPar3, dSetT, dLc, dYes, dSl, dNo, dSome, dRev, dNev, dSset, dCount, dIndex, dLrg1, dLrg2, dTwo, un_non, un_int, un_bl, un_str, un_lst, un_tup, un_obj, un_dct, un_scr, un_olst, un_oll, un_oobj, un_mv, un_m, un_p, pl_non, pl_int, pl_bl, pl_str, pl_lst, pl_tup, pl_obj, pl_dct, pl_scr, pl_m, pl_p, fzm_non, fzm_int, fzm_bl, fzm_lst, fzm_tup, fzm_obj, fzm_scr, fzm_olst, fzm_oll, fzm_oobj, fzm_m, frz_non, frz_int, frz_bl, frz_str, frz_lst, frz_tup, frz_obj, frz_dct, frz_scr, frz_olst, frz_oll, frz_m, fz_no, fz_tr, see_no, see_tr, asB_bl, asI_int, asgD_non, asgD_int, asgD_bl, asgD_lst, asgD_tup, asgD_obj, asgD_mv, asgD_m, it_lst, it_olst, it_scr, li_lst, li_olst, pit_lst, pit_scr, sz_lst, sz_olst, sz_oll, sz_scr, sz_tup, ad_int, ad_ll, ad_oo, ad_lo, ad_ol, mu_int, mu_l, mu_o, gI_int, gI0_int, gI2_int, ii_eqv, co_int, co_bl, co_non, co_row, co_rowO, co_nil, co_nilO, co_ps, co_p, co_p2, co_rows, ev_ll, ev_ol, ev_lo, ev_oo, ev_ln, ev_lno, ev_on, ev_ono, in_ps, in_row, gEq, gNe, gIn, gNotIn, g1, g2, gLen, gList, δof, List.getElem?_cons_zero, List.getElem?_cons_succ, List.getElem?_nil, List.set_cons_zero, List.set_cons_succ, List.map_cons, List.map_nil, List.length_cons, List.length_nil, List.replicate_succ, List.replicate_zero, List.cons_append, List.nil_append, Option.bind_some, Option.bind_none, List.all_cons, List.all_nil, List.append_nil, Nat.reduceAdd, Nat.reduceSub, true_and, and_true, Bool.and_true, Bool.true_and]
    rw [cut_from (by rw [List.length_map, List.length_append]; omega), ← List.map_drop, List.drop_left]
    refine ⟨n, ps, rest, y, rfl, ?_⟩
    by_cases hf : Fi (mnd ps) y rest
    · obtain ⟨A, B, hs⟩ := hf
      have lr : rest.length = A.length + B.length + 1 := by
        rw [hs.1, List.length_append, List.length_cons]
        omega
      rw [ldo_cons (mi_mnd ps) hs] at h
      rw [pf_at (mi_mnd ps) hs]
      simp only [dSeq, dIfS, dT, dTn, dTa, dTo, dOp, dVar, dC, dFz_eq, dCB, dCons, dNil, dCall, dCallB, dMeth, dMethB, dSet, dApp, dExt, dRet, dRetM, dNx, dDrop, dNeg, dAnd, dOr, dNot, dIf, dCh, dCh3, dU, dTup, dLst, dFld, dIsi, dIl, dIe, dIr1, dIr2, dIv1, dgN, dgT, putAll, dFor, dPar2, dPar3, dSetT, dLc, dYes, dSl, dNo, dSome, dRev, dNev, dSset, dCount, dIndex, dLrg1, dLrg2, dTwo, un_non, un_int, un_bl, un_str, un_lst, un_tup, un_obj, un_dct, un_scr, un_olst, un_oll, un_oobj, un_mv, un_m, un_p, pl_non, pl_int, pl_bl, pl_str, pl_lst, pl_tup, pl_obj, pl_dct, pl_scr, pl_m, pl_p, fzm_non, fzm_int, fzm_bl, fzm_lst, fzm_tup, fzm_obj, fzm_scr, fzm_olst, fzm_oll, fzm_oobj, fzm_m, frz_non, frz_int, frz_bl, frz_str, frz_lst, frz_tup, frz_obj, frz_dct, frz_scr, frz_olst, frz_oll, frz_m, fz_no, fz_tr, see_no, see_tr, asB_bl, asI_int, asgD_non, asgD_int, asgD_bl, asgD_lst, asgD_tup, asgD_obj, asgD_mv, asgD_m, it_lst, it_olst, it_scr, li_lst, li_olst, pit_lst, pit_scr, sz_lst, sz_olst, sz_oll, sz_scr, sz_tup, ad_int, ad_ll, ad_oo, ad_lo, ad_ol, mu_int, mu_l, mu_o, gI_int, gI0_int, gI2_int, ii_eqv, co_int, co_bl, co_non, co_row, co_rowO, co_nil, co_nilO, co_ps, co_p, co_p2, co_rows, ev_ll, ev_ol, ev_lo, ev_oo, ev_ln, ev_lno, ev_on, ev_ono, in_ps, in_row, gEq, gNe, gIn, gNotIn, g1, g2, gLen, gList, δof, List.getElem?_cons_zero, List.getElem?_cons_succ, List.getElem?_nil, List.set_cons_zero, List.set_cons_succ, List.map_cons, List.map_nil, List.length_cons, List.length_nil, List.replicate_succ, List.replicate_zero, List.cons_append, List.nil_append, Option.bind_some, Option.bind_none, List.all_cons, List.all_nil, List.append_nil, Nat.reduceAdd, Nat.reduceSub, true_and, and_true, Bool.and_true, Bool.true_and]
      rw [decide_eq_false (by omega)]
      simp only [dSeq, dIfS, dT, dTn, dTa, dTo, dOp, dVar, dC, dFz_eq, dCB, dCons, dNil, dCall, dCallB, dMeth, dMethB, dSet, dApp, dExt, dRet, dRetM, dNx, dDrop, dNeg, dAnd, dOr, dNot, dIf, dCh, dCh3, dU, dTup, dLst, dFld, dIsi, dIl, dIe, dIr1, dIr2, dIv1, dgN, dgT, putAll, dFor, dPar2, dPar3, dSetT, dLc, dYes, dSl, dNo, dSome, dRev, dNev, dSset, dCount, dIndex, dLrg1, dLrg2, dTwo, un_non, un_int, un_bl, un_str, un_lst, un_tup, un_obj, un_dct, un_scr, un_olst, un_oll, un_oobj, un_mv, un_m, un_p, pl_non, pl_int, pl_bl, pl_str, pl_lst, pl_tup, pl_obj, pl_dct, pl_scr, pl_m, pl_p, fzm_non, fzm_int, fzm_bl, fzm_lst, fzm_tup, fzm_obj, fzm_scr, fzm_olst, fzm_oll, fzm_oobj, fzm_m, frz_non, frz_int, frz_bl, frz_str, frz_lst, frz_tup, frz_obj, frz_dct, frz_scr, frz_olst, frz_oll, frz_m, fz_no, fz_tr, see_no, see_tr, asB_bl, asI_int, asgD_non, asgD_int, asgD_bl, asgD_lst, asgD_tup, asgD_obj, asgD_mv, asgD_m, it_lst, it_olst, it_scr, li_lst, li_olst, pit_lst, pit_scr, sz_lst, sz_olst, sz_oll, sz_scr, sz_tup, ad_int, ad_ll, ad_oo, ad_lo, ad_ol, mu_int, mu_l, mu_o, gI_int, gI0_int, gI2_int, ii_eqv, co_int, co_bl, co_non, co_row, co_rowO, co_nil, co_nilO, co_ps, co_p, co_p2, co_rows, ev_ll, ev_ol, ev_lo, ev_oo, ev_ln, ev_lno, ev_on, ev_ono, in_ps, in_row, gEq, gNe, gIn, gNotIn, g1, g2, gLen, gList, δof, List.getElem?_cons_zero, List.getElem?_cons_succ, List.getElem?_nil, List.set_cons_zero, List.set_cons_succ, List.map_cons, List.map_nil, List.length_cons, List.length_nil, List.replicate_succ, List.replicate_zero, List.cons_append, List.nil_append, Option.bind_some, Option.bind_none, List.all_cons, List.all_nil, List.append_nil, Nat.reduceAdd, Nat.reduceSub, true_and, and_true, Bool.and_true, Bool.true_and]
      rw [cut_to (by rw [List.length_map, List.length_append]; omega), ← List.map_take, List.take_left]
      have e1 : List.map D.int C ++ [D.int y] = (C ++ [y]).map D.int := by rw [List.map_append]; rfl
      simp only [e1, dSeq, dIfS, dT, dTn, dTa, dTo, dOp, dVar, dC, dFz_eq, dCB, dCons, dNil, dCall, dCallB, dMeth, dMethB, dSet, dApp, dExt, dRet, dRetM, dNx, dDrop, dNeg, dAnd, dOr, dNot, dIf, dCh, dCh3, dU, dTup, dLst, dFld, dIsi, dIl, dIe, dIr1, dIr2, dIv1, dgN, dgT, putAll, dFor, dPar2, dPar3, dSetT, dLc, dYes, dSl, dNo, dSome, dRev, dNev, dSset, dCount, dIndex, dLrg1, dLrg2, dTwo, un_non, un_int, un_bl, un_str, un_lst, un_tup, un_obj, un_dct, un_scr, un_olst, un_oll, un_oobj, un_mv, un_m, un_p, pl_non, pl_int, pl_bl, pl_str, pl_lst, pl_tup, pl_obj, pl_dct, pl_scr, pl_m, pl_p, fzm_non, fzm_int, fzm_bl, fzm_lst, fzm_tup, fzm_obj, fzm_scr, fzm_olst, fzm_oll, fzm_oobj, fzm_m, frz_non, frz_int, frz_bl, frz_str, frz_lst, frz_tup, frz_obj, frz_dct, frz_scr, frz_olst, frz_oll, frz_m, fz_no, fz_tr, see_no, see_tr, asB_bl, asI_int, asgD_non, asgD_int, asgD_bl, asgD_lst, asgD_tup, asgD_obj, asgD_mv, asgD_m, it_lst, it_olst, it_scr, li_lst, li_olst, pit_lst, pit_scr, sz_lst, sz_olst, sz_oll, sz_scr, sz_tup, ad_int, ad_ll, ad_oo, ad_lo, ad_ol, mu_int, mu_l, mu_o, gI_int, gI0_int, gI2_int, ii_eqv, co_int, co_bl, co_non, co_row, co_rowO, co_nil, co_nilO, co_ps, co_p, co_p2, co_rows, ev_ll, ev_ol, ev_lo, ev_oo, ev_ln, ev_lno, ev_on, ev_ono, in_ps, in_row, gEq, gNe, gIn, gNotIn, g1, g2, gLen, gList, δof, List.getElem?_cons_zero, List.getElem?_cons_succ, List.getElem?_nil, List.set_cons_zero, List.set_cons_succ, List.map_cons, List.map_nil, List.length_cons, List.length_nil, List.replicate_succ, List.replicate_zero, List.cons_append, List.nil_append, Option.bind_some, Option.bind_none, List.all_cons, List.all_nil, List.append_nil, Nat.reduceAdd, Nat.reduceSub, true_and, and_true, Bool.and_true, Bool.true_and]
      refine ⟨by decide, ⟨by rw [List.length_map]; omega, ?_⟩⟩
      refine ⟨rest, A.length, rfl, by omega, by omega, ?_⟩
      rw [hs.erase]
      simp only [dSeq, dIfS, dT, dTn, dTa, dTo, dOp, dVar, dC, dFz_eq, dCB, dCons, dNil, dCall, dCallB, dMeth, dMethB, dSet, dApp, dExt, dRet, dRetM, dNx, dDrop, dNeg, dAnd, dOr, dNot, dIf, dCh, dCh3, dU, dTup, dLst, dFld, dIsi, dIl, dIe, dIr1, dIr2, dIv1, dgN, dgT, putAll, dFor, dPar2, dPar3, dSetT, dLc, dYes, dSl, dNo, dSome, dRev, dNev, dSset, dCount, dIndex, dLrg1, dLrg2, dTwo, un_non, un_int, un_bl, un_str, un_lst, un_tup, un_obj, un_dct, un_scr, un_olst, un_oll, un_oobj, un_mv, un_m, un_p, pl_non, pl_int, pl_bl, pl_str, pl_lst, pl_tup, pl_obj, pl_dct, pl_scr, pl_m, pl_p, fzm_non, fzm_int, fzm_bl, fzm_lst, fzm_tup, fzm_obj, fzm_scr, fzm_olst, fzm_oll, fzm_oobj, fzm_m, frz_non, frz_int, frz_bl, frz_str, frz_lst, frz_tup, frz_obj, frz_dct, frz_scr, frz_olst, frz_oll, frz_m, fz_no, fz_tr, see_no, see_tr, asB_bl, asI_int, asgD_non, asgD_int, asgD_bl, asgD_lst, asgD_tup, asgD_obj, asgD_mv, asgD_m, it_lst, it_olst, it_scr, li_lst, li_olst, pit_lst, pit_scr, sz_lst, sz_olst, sz_oll, sz_scr, sz_tup, ad_int, ad_ll, ad_oo, ad_lo, ad_ol, mu_int, mu_l, mu_o, gI_int, gI0_int, gI2_int, ii_eqv, co_int, co_bl, co_non, co_row, co_rowO, co_nil, co_nilO, co_ps, co_p, co_p2, co_rows, ev_ll, ev_ol, ev_lo, ev_oo, ev_ln, ev_lno, ev_on, ev_ono, in_ps, in_row, gEq, gNe, gIn, gNotIn, g1, g2, gLen, gList, δof, List.getElem?_cons_zero, List.getElem?_cons_succ, List.getElem?_nil, List.set_cons_zero, List.set_cons_succ, List.map_cons, List.map_nil, List.length_cons, List.length_nil, List.replicate_succ, List.replicate_zero, List.cons_append, List.nil_append, Option.bind_some, Option.bind_none, List.all_cons, List.all_nil, List.append_nil, Nat.reduceAdd, Nat.reduceSub, true_and, and_true, Bool.and_true, Bool.true_and]
      have e2 : List.map D.int (C ++ [y]) ++ List.map D.int (A ++ B) = ((C ++ [y]) ++ (A ++ B)).map D.int := by rw [← List.map_append]
      simp only [e2, dSeq, dIfS, dT, dTn, dTa, dTo, dOp, dVar, dC, dFz_eq, dCB, dCons, dNil, dCall, dCallB, dMeth, dMethB, dSet, dApp, dExt, dRet, dRetM, dNx, dDrop, dNeg, dAnd, dOr, dNot, dIf, dCh, dCh3, dU, dTup, dLst, dFld, dIsi, dIl, dIe, dIr1, dIr2, dIv1, dgN, dgT, putAll, dFor, dPar2, dPar3, dSetT, dLc, dYes, dSl, dNo, dSome, dRev, dNev, dSset, dCount, dIndex, dLrg1, dLrg2, dTwo, un_non, un_int, un_bl, un_str, un_lst, un_tup, un_obj, un_dct, un_scr, un_olst, un_oll, un_oobj, un_mv, un_m, un_p, pl_non, pl_int, pl_bl, pl_str, pl_lst, pl_tup, pl_obj, pl_dct, pl_scr, pl_m, pl_p, fzm_non, fzm_int, fzm_bl, fzm_lst, fzm_tup, fzm_obj, fzm_scr, fzm_olst, fzm_oll, fzm_oobj, fzm_m, frz_non, frz_int, frz_bl, frz_str, frz_lst, frz_tup, frz_obj, frz_dct, frz_scr, frz_olst, frz_oll, frz_m, fz_no, fz_tr, see_no, see_tr, asB_bl, asI_int, asgD_non, asgD_int, asgD_bl, asgD_lst, asgD_tup, asgD_obj, asgD_mv, asgD_m, it_lst, it_olst, it_scr, li_lst, li_olst, pit_lst, pit_scr, sz_lst, sz_olst, sz_oll, sz_scr, sz_tup, ad_int, ad_ll, ad_oo, ad_lo, ad_ol, mu_int, mu_l, mu_o, gI_int, gI0_int, gI2_int, ii_eqv, co_int, co_bl, co_non, co_row, co_rowO, co_nil, co_nilO, co_ps, co_p, co_p2, co_rows, ev_ll, ev_ol, ev_lo, ev_oo, ev_ln, ev_lno, ev_on, ev_ono, in_ps, in_row, gEq, gNe, gIn, gNotIn, g1, g2, gLen, gList, δof, List.getElem?_cons_zero, List.getElem?_cons_succ, List.getElem?_nil, List.set_cons_zero, List.set_cons_succ, List.map_cons, List.map_nil, List.length_cons, List.length_nil, List.replicate_succ, List.replicate_zero, List.cons_append, List.nil_append, Option.bind_some, Option.bind_none, List.all_cons, List.all_nil, List.append_nil, Nat.reduceAdd, Nat.reduceSub, true_and, and_true, Bool.and_true, Bool.true_and, dLrv2]
      refine ⟨by rw [List.length_map, List.length_map, List.length_append, List.length_append, List.length_cons, List.length_nil]; omega, by omega, by omega, by omega, by omega, ?_⟩
      have e3 : ((C.length : Int) + (A.length : Int)) = ((C.length + A.length : Nat) : Int) := by omega
      rw [e3]
      refine ⟨by rw [List.length_map, List.length_map, rvs_len]; omega, ?_⟩
      rw [hN, ← List.map_append]
      have z := led_f (K := K) (n := n) (ps := ps) (one := one) (other := other) (E := E) ys (C ++ [y]) (A ++ B) (acc ++ rvs (C.length : Int) ((C.length + A.length : Nat) : Int)) (.tr (.int (C.length : Int))) (.tr (.int y)) (.tr (.int (A.length : Int)))
        (by rw [List.length_append]; omega) (by rw [List.length_append, List.length_cons, List.length_nil]; omega)
        (by rw [List.length_append, List.length_append, rvs_len, List.length_cons, List.length_nil]; omega) ?_
      · rw [List.length_append, List.length_cons, List.length_nil] at z
        exact z
      · rw [List.length_append, List.length_cons, List.length_nil]
        cases q : ldo (mnd ps) (C.length + (0 + 1)) (A ++ B) ys with
        | none =>
          rw [Nat.zero_add] at q
          rw [q] at h
          exact h
        | some r =>
          rw [Nat.zero_add] at q
          rw [q] at h
          intro e4 e5 e6 e7
          rw [List.append_assoc]
          exact h e4 e5 e6 e7
    · rw [ldo_none (mi_mnd ps) hf] at h
      have neg : pf (mnd ps) y rest 0 < 0 := Int.not_le.mp fun z => hf ((pf_ge (mi_mnd ps)).mp z)
      simp only [dSeq, dIfS, dT, dTn, dTa, dTo, dOp, dVar, dC, dFz_eq, dCB, dCons, dNil, dCall, dCallB, dMeth, dMethB, dSet, dApp, dExt, dRet, dRetM, dNx, dDrop, dNeg, dAnd, dOr, dNot, dIf, dCh, dCh3, dU, dTup, dLst, dFld, dIsi, dIl, dIe, dIr1, dIr2, dIv1, dgN, dgT, putAll, dFor, dPar2, dPar3, dSetT, dLc, dYes, dSl, dNo, dSome, dRev, dNev, dSset, dCount, dIndex, dLrg1, dLrg2, dTwo, un_non, un_int, un_bl, un_str, un_lst, un_tup, un_obj, un_dct, un_scr, un_olst, un_oll, un_oobj, un_mv, un_m, un_p, pl_non, pl_int, pl_bl, pl_str, pl_lst, pl_tup, pl_obj, pl_dct, pl_scr, pl_m, pl_p, fzm_non, fzm_int, fzm_bl, fzm_lst, fzm_tup, fzm_obj, fzm_scr, fzm_olst, fzm_oll, fzm_oobj, fzm_m, frz_non, frz_int, frz_bl, frz_str, frz_lst, frz_tup, frz_obj, frz_dct, frz_scr, frz_olst, frz_oll, frz_m, fz_no, fz_tr, see_no, see_tr, asB_bl, asI_int, asgD_non, asgD_int, asgD_bl, asgD_lst, asgD_tup, asgD_obj, asgD_mv, asgD_m, it_lst, it_olst, it_scr, li_lst, li_olst, pit_lst, pit_scr, sz_lst, sz_olst, sz_oll, sz_scr, sz_tup, ad_int, ad_ll, ad_oo, ad_lo, ad_ol, mu_int, mu_l, mu_o, gI_int, gI0_int, gI2_int, ii_eqv, co_int, co_bl, co_non, co_row, co_rowO, co_nil, co_nilO, co_ps, co_p, co_p2, co_rows, ev_ll, ev_ol, ev_lo, ev_oo, ev_ln, ev_lno, ev_on, ev_ono, in_ps, in_row, gEq, gNe, gIn, gNotIn, g1, g2, gLen, gList, δof, List.getElem?_cons_zero, List.getElem?_cons_succ, List.getElem?_nil, List.set_cons_zero, List.set_cons_succ, List.map_cons, List.map_nil, List.length_cons, List.length_nil, List.replicate_succ, List.replicate_zero, List.cons_append, List.nil_append, Option.bind_some, Option.bind_none, List.all_cons, List.all_nil, List.append_nil, Nat.reduceAdd, Nat.reduceSub, true_and, and_true, Bool.and_true, Bool.true_and, decide_eq_true neg]
      exact h
theorem rd_led {K : PySem.W.Frag} : ∀ ds Q, G_led K ds Q → T_led K { nx := fun _ => Q .non, rt := Q } (δof N_led.length ds) := by
  rintro _ Q ⟨n, ps, xs, ys, rfl, hx, hy, h⟩
  simp only [T_led, mK, rD, dSeq, dIfS, dT, dTn, dTa, dTo, dOp, dVar, dC, dFz_eq, dCB, dCons, dNil, dCall, dCallB, dMeth, dMethB, dSet, dApp, dExt, dRet, dRetM, dNx, dDrop, dNeg, dAnd, dOr, dNot, dIf, dCh, dCh3, dU, dTup, dLst, dFld, dIsi, dIl, dIe, dIr1, dIr2, dIv1, dgN, dgT, putAll, dFor, dPar2, dPar3, dSetT, dLc, dYes, dSl, dNo, dSome, dRev, dNev, dSset, dCount, dIndex, dLrg1, dLrg2, dTwo, un_non, un_int, un_bl, un_str, un_lst, un_tup, un_obj, un_dct, un_scr, un_olst, un_oll, un_oobj, un_mv, un_m, un_p, pl_non, pl_int, pl_bl, pl_str, pl_lst, pl_tup, pl_obj, pl_dct, pl_scr, pl_m, pl_p, fzm_non, fzm_int, fzm_bl, fzm_lst, fzm_tup, fzm_obj, fzm_scr, fzm_olst, fzm_oll, fzm_oobj, fzm_m, frz_non, frz_int, frz_bl, frz_str, frz_lst, frz_tup, frz_obj, frz_dct, frz_scr, frz_olst, frz_oll, frz_m, fz_no, fz_tr, see_no, see_tr, asB_bl, asI_int, asgD_non, asgD_int, asgD_bl, asgD_lst, asgD_tup, asgD_obj, asgD_mv, asgD_m, it_lst, it_olst, it_scr, li_lst, li_olst, pit_lst, pit_scr, sz_lst, sz_olst, sz_oll, sz_scr, sz_tup, ad_int, ad_ll, ad_oo, ad_lo, ad_ol, mu_int, mu_l, mu_o, gI_int, gI0_int, gI2_int, ii_eqv, co_int, co_bl, co_non, co_row, co_rowO, co_nil, co_nilO, co_ps, co_p, co_p2, co_rows, ev_ll, ev_ol, ev_lo, ev_oo, ev_ln, ev_lno, ev_on, ev_ono, in_ps, in_row, gEq, gNe, gIn, gNotIn, g1, g2, gLen, gList, δof, List.getElem?_cons_zero, List.getElem?_cons_succ, List.getElem?_nil, List.set_cons_zero, List.set_cons_succ, List.map_cons, List.map_nil, List.length_cons, List.length_nil, List.replicate_succ, List.replicate_zero, List.cons_append, List.nil_append, Option.bind_some, Option.bind_none, List.all_cons, List.all_nil, List.append_nil, Nat.reduceAdd, Nat.reduceSub, true_and, and_true, Bool.and_true, Bool.true_and, List.length_map]
  by_cases e : xs.length = ys.length
  · rw [decide_eq_true (by omega)]
    simp only [dSeq, dIfS, dT, dTn, dTa, dTo, dOp, dVar, dC, dFz_eq, dCB, dCons, dNil, dCall, dCallB, dMeth, dMethB, dSet, dApp, dExt, dRet, dRetM, dNx, dDrop, dNeg, dAnd, dOr, dNot, dIf, dCh, dCh3, dU, dTup, dLst, dFld, dIsi, dIl, dIe, dIr1, dIr2, dIv1, dgN, dgT, putAll, dFor, dPar2, dPar3, dSetT, dLc, dYes, dSl, dNo, dSome, dRev, dNev, dSset, dCount, dIndex, dLrg1, dLrg2, dTwo, un_non, un_int, un_bl, un_str, un_lst, un_tup, un_obj, un_dct, un_scr, un_olst, un_oll, un_oobj, un_mv, un_m, un_p, pl_non, pl_int, pl_bl, pl_str, pl_lst, pl_tup, pl_obj, pl_dct, pl_scr, pl_m, pl_p, fzm_non, fzm_int, fzm_bl, fzm_lst, fzm_tup, fzm_obj, fzm_scr, fzm_olst, fzm_oll, fzm_oobj, fzm_m, frz_non, frz_int, frz_bl, frz_str, frz_lst, frz_tup, frz_obj, frz_dct, frz_scr, frz_olst, frz_oll, frz_m, fz_no, fz_tr, see_no, see_tr, asB_bl, asI_int, asgD_non, asgD_int, asgD_bl, asgD_lst, asgD_tup, asgD_obj, asgD_mv, asgD_m, it_lst, it_olst, it_scr, li_lst, li_olst, pit_lst, pit_scr, sz_lst, sz_olst, sz_oll, sz_scr, sz_tup, ad_int, ad_ll, ad_oo, ad_lo, ad_ol, mu_int, mu_l, mu_o, gI_int, gI0_int, gI2_int, ii_eqv, co_int, co_bl, co_non, co_row, co_rowO, co_nil, co_nilO, co_ps, co_p, co_p2, co_rows, ev_ll, ev_ol, ev_lo, ev_oo, ev_ln, ev_lno, ev_on, ev_ono, in_ps, in_row, gEq, gNe, gIn, gNotIn, g1, g2, gLen, gList, δof, List.getElem?_cons_zero, List.getElem?_cons_succ, List.getElem?_nil, List.set_cons_zero, List.set_cons_succ, List.map_cons, List.map_nil, List.length_cons, List.length_nil, List.replicate_succ, List.replicate_zero, List.cons_append, List.nil_append, Option.bind_some, Option.bind_none, List.all_cons, List.all_nil, List.append_nil, Nat.reduceAdd, Nat.reduceSub, true_and, and_true, Bool.and_true, Bool.true_and, Bool.not_true]
    refine ⟨by decide, ?_⟩
    refine led_f (K := K) (n := n) (ps := ps) ys [] xs [] _ _ _ e (by simpa using hy) (by simp) ?_
    unfold ledF at h
    rw [if_pos e] at h
    show (match ldo (mnd ps) 0 xs ys with
      | none => Q .non
      | some r => ∀ e4 e5 e6 e7, _)
    cases q : ldo (mnd ps) 0 xs ys with
    | none =>
      rw [q] at h
      exact h
    | some r =>
      rw [q] at h
      intro e4 e5 e6 e7
      simp only [mK, rD, dSeq, dIfS, dT, dTn, dTa, dTo, dOp, dVar, dC, dFz_eq, dCB, dCons, dNil, dCall, dCallB, dMeth, dMethB, dSet, dApp, dExt, dRet, dRetM, dNx, dDrop, dNeg, dAnd, dOr, dNot, dIf, dCh, dCh3, dU, dTup, dLst, dFld, dIsi, dIl, dIe, dIr1, dIr2, dIv1, dgN, dgT, putAll, dFor, dPar2, dPar3, dSetT, dLc, dYes, dSl, dNo, dSome, dRev, dNev, dSset, dCount, dIndex, dLrg1, dLrg2, dTwo, un_non, un_int, un_bl, un_str, un_lst, un_tup, un_obj, un_dct, un_scr, un_olst, un_oll, un_oobj, un_mv, un_m, un_p, pl_non, pl_int, pl_bl, pl_str, pl_lst, pl_tup, pl_obj, pl_dct, pl_scr, pl_m, pl_p, fzm_non, fzm_int, fzm_bl, fzm_lst, fzm_tup, fzm_obj, fzm_scr, fzm_olst, fzm_oll, fzm_oobj, fzm_m, frz_non, frz_int, frz_bl, frz_str, frz_lst, frz_tup, frz_obj, frz_dct, frz_scr, frz_olst, frz_oll, frz_m, fz_no, fz_tr, see_no, see_tr, asB_bl, asI_int, asgD_non, asgD_int, asgD_bl, asgD_lst, asgD_tup, asgD_obj, asgD_mv, asgD_m, it_lst, it_olst, it_scr, li_lst, li_olst, pit_lst, pit_scr, sz_lst, sz_olst, sz_oll, sz_scr, sz_tup, ad_int, ad_ll, ad_oo, ad_lo, ad_ol, mu_int, mu_l, mu_o, gI_int, gI0_int, gI2_int, ii_eqv, co_int, co_bl, co_non, co_row, co_rowO, co_nil, co_nilO, co_ps, co_p, co_p2, co_rows, ev_ll, ev_ol, ev_lo, ev_oo, ev_ln, ev_lno, ev_on, ev_ono, in_ps, in_row, gEq, gNe, gIn, gNotIn, g1, g2, gLen, gList, δof, List.getElem?_cons_zero, List.getElem?_cons_succ, List.getElem?_nil, List.set_cons_zero, List.set_cons_succ, List.map_cons, List.map_nil, List.length_cons, List.length_nil, List.replicate_succ, List.replicate_zero, List.cons_append, List.nil_append, Option.bind_some, Option.bind_none, List.all_cons, List.all_nil, List.append_nil, Nat.reduceAdd, Nat.reduceSub, true_and, and_true, Bool.and_true, Bool.true_and]
      exact h
  · rw [decide_eq_false (by omega)]
    unfold ledF at h
    rw [if_neg e] at h
    simp only [dSeq, dIfS, dT, dTn, dTa, dTo, dOp, dVar, dC, dFz_eq, dCB, dCons, dNil, dCall, dCallB, dMeth, dMethB, dSet, dApp, dExt, dRet, dRetM, dNx, dDrop, dNeg, dAnd, dOr, dNot, dIf, dCh, dCh3, dU, dTup, dLst, dFld, dIsi, dIl, dIe, dIr1, dIr2, dIv1, dgN, dgT, putAll, dFor, dPar2, dPar3, dSetT, dLc, dYes, dSl, dNo, dSome, dRev, dNev, dSset, dCount, dIndex, dLrg1, dLrg2, dTwo, un_non, un_int, un_bl, un_str, un_lst, un_tup, un_obj, un_dct, un_scr, un_olst, un_oll, un_oobj, un_mv, un_m, un_p, pl_non, pl_int, pl_bl, pl_str, pl_lst, pl_tup, pl_obj, pl_dct, pl_scr, pl_m, pl_p, fzm_non, fzm_int, fzm_bl, fzm_lst, fzm_tup, fzm_obj, fzm_scr, fzm_olst, fzm_oll, fzm_oobj, fzm_m, frz_non, frz_int, frz_bl, frz_str, frz_lst, frz_tup, frz_obj, frz_dct, frz_scr, frz_olst, frz_oll, frz_m, fz_no, fz_tr, see_no, see_tr, asB_bl, asI_int, asgD_non, asgD_int, asgD_bl, asgD_lst, asgD_tup, asgD_obj, asgD_mv, asgD_m, it_lst, it_olst, it_scr, li_lst, li_olst, pit_lst, pit_scr, sz_lst, sz_olst, sz_oll, sz_scr, sz_tup, ad_int, ad_ll, ad_oo, ad_lo, ad_ol, mu_int, mu_l, mu_o, gI_int, gI0_int, gI2_int, ii_eqv, co_int, co_bl, co_non, co_row, co_rowO, co_nil, co_nilO, co_ps, co_p, co_p2, co_rows, ev_ll, ev_ol, ev_lo, ev_oo, ev_ln, ev_lno, ev_on, ev_ono, in_ps, in_row, gEq, gNe, gIn, gNotIn, g1, g2, gLen, gList, δof, List.getElem?_cons_zero, List.getElem?_cons_succ, List.getElem?_nil, List.set_cons_zero, List.set_cons_succ, List.map_cons, List.map_nil, List.length_cons, List.length_nil, List.replicate_succ, List.replicate_zero, List.cons_append, List.nil_append, Option.bind_some, Option.bind_none, List.all_cons, List.all_nil, List.append_nil, Nat.reduceAdd, Nat.reduceSub, true_and, and_true, Bool.and_true, Bool.true_and, Bool.not_false]
    exact h
/-! ### couples, unlike -/
theorem srt {xs ys : List Int} (up : ys.Pairwise (· < ·)) (mem : ∀ k, k ∈ ys ↔ k ∈ xs) : ys = uni xs := up_eq up up_uni fun k => by rw [mem, mem_uni]
def G_couples (K : PySem.W.Frag) : GD := fun ds P => ∃ n ps xs ys, ds = [mK K n ps, rD xs, rD ys] ∧ xs.length ≤ 130 ∧ ys.length ≤ 130 ∧ P (.mv (.olst ((cpl (mnd ps) (uni (xs ++ ys))).map pD)))
/-! ### couples -/
abbrev N_couples : List Str := ["minds", "one", "other", "kinds", "found", "kind", "more"]
def T_couples_c1 (K : PySem.W.Frag) : DE := (dTup (dCons (dVar 5) (dCons (dVar 5) dNil)))
def T_couples_c2 (K : PySem.W.Frag) : DE := (dTup (dCons (dVar 5) (dCons (dVar 6) dNil)))
def T_couples_c2t (K : PySem.W.Frag) : DT := (dTa (dT (dOp gLt (dVar 5) (dVar 6))) (dT (dMeth (He.ga K "Minds") "minding" (G_Minds_minding K) (dVar 0) (dCons (dVar 5) (dCons (dVar 6) dNil)))))
def T_couples_f3 (K : PySem.W.Frag) : DS := (dExt 4 (dLc 6 (dIl (dVar 3)) (T_couples_c2t K) (T_couples_c2 K)))
def T_couples (K : PySem.W.Frag) : DS := (dSeq (dSet 3 (dFz (dSset (dOp gAdd (dVar 1) (dVar 2)))))
  (dSeq (dSet 4 (dLc 5 (dIl (dVar 3)) dYes (T_couples_c1 K)))
  (dSeq (dFor (dIl (dVar 3)) (dgN 5) (T_couples_f3 K))
  (dRetM 4))))
theorem couples_f {K : PySem.W.Frag} {n : Int} {ps : List (Int × Int)} {ks : List Int} {one other : D} {E : EndsD} (hk : ks.length ≤ 300) : ∀ (js : List Int) (acc : List (Int × Int)) (e5 e6 : DV), acc.length + js.length * 300 ≤ 100000 →
    (∀ e5 e6, E.nx [.tr (mK K n ps), .tr one, .tr other, .tr (rD ks), .tr (.olst ((acc ++ js.flatMap fun k => (ks.filter fun j => decide (k < j) && mnd ps k j).map fun j => (k, j)).map pD)), e5, e6]) →
    forGo (dgN 5) (T_couples_f3 K) E (js.map .int) [.tr (mK K n ps), .tr one, .tr other, .tr (rD ks), .tr (.olst (acc.map pD)), e5, e6]
  | [], acc, e5, e6, _, h => by
    have z := h e5 e6
    rw [List.flatMap_nil, List.append_nil] at z
    exact z
  | k :: js, acc, e5, e6, hl, h => by
    rw [List.length_cons] at hl
    refine forGo_op fun N hN => ?_
    simp only [T_couples_f3, mK, rD, dSeq, dIfS, dT, dTn, dTa, dTo, dOp, dVar, dC, dFz_eq, dCB, dCons, dNil, dCall, dCallB, dMeth, dMethB, dSet, dApp, dExt, dRet, dRetM, dNx, dDrop, dNeg, dAnd, dOr, dNot, dIf, dCh, dCh3, dU, dTup, dLst, dFld, dIsi, dIl, dIe, dIr1, dIr2, dIv1, dgN, dgT, putAll, dFor, dPar2, dPar3, dSetT, dLc, dYes, dSl, dNo, dSome, dRev, dNev, dSset, dCount, dIndex, dLrg1, dLrg2, dTwo, un_non, un_int, un_bl, un_str, un_lst, un_tup, un_obj, un_dct, un_scr, un_olst, un_oll, un_oobj, un_mv, un_m, un_p, pl_non, pl_int, pl_bl, pl_str, pl_lst, pl_tup, pl_obj, pl_dct, pl_scr, pl_m, pl_p, fzm_non, fzm_int, fzm_bl, fzm_lst, fzm_tup, fzm_obj, fzm_scr, fzm_olst, fzm_oll, fzm_oobj, fzm_m, frz_non, frz_int, frz_bl, frz_str, frz_lst, frz_tup, frz_obj, frz_dct, frz_scr, frz_olst, frz_oll, frz_m, fz_no, fz_tr, see_no, see_tr, asB_bl, asI_int, asgD_non, asgD_int, asgD_bl, asgD_lst, asgD_tup, asgD_obj, asgD_mv, asgD_m, it_lst, it_olst, it_scr, li_lst, li_olst, pit_lst, pit_scr, sz_lst, sz_olst, sz_oll, sz_scr, sz_tup, ad_int, ad_ll, ad_oo, ad_lo, ad_ol, mu_int, mu_l, mu_o, gI_int, gI0_int, gI2_int, ii_eqv, co_int, co_bl, co_non, co_row, co_rowO, co_nil, co_nilO, co_ps, co_p, co_p2, co_rows, ev_ll, ev_ol, ev_lo, ev_oo, ev_ln, ev_lno, ev_on, ev_ono, in_ps, in_row, gEq, gNe, gIn, gNotIn, g1, g2, gLen, gList, δof, List.getElem?_cons_zero, List.getElem?_cons_succ, List.getElem?_nil, List.set_cons_zero, List.set_cons_succ, List.map_cons, List.map_nil, List.length_cons, List.length_nil, List.replicate_succ, List.replicate_zero, List.cons_append, List.nil_append, Option.bind_some, Option.bind_none, List.all_cons, List.all_nil, List.append_nil, Nat.reduceAdd, Nat.reduceSub, true_and, and_true, Bool.and_true, Bool.true_and]
    refine cg (p := fun j => decide (k < j) && mnd ps k j) (f := fun j => pD (k, j)) ks (fun j _ R hR => ?_) (fun j _ R hR => ?_) (fun _ => rfl) [] (by rw [List.length_nil]; omega) ?_
    · simp only [T_couples_c2t, dSeq, dIfS, dT, dTn, dTa, dTo, dOp, dVar, dC, dFz_eq, dCB, dCons, dNil, dCall, dCallB, dMeth, dMethB, dSet, dApp, dExt, dRet, dRetM, dNx, dDrop, dNeg, dAnd, dOr, dNot, dIf, dCh, dCh3, dU, dTup, dLst, dFld, dIsi, dIl, dIe, dIr1, dIr2, dIv1, dgN, dgT, putAll, dFor, dPar2, dPar3, dSetT, dLc, dYes, dSl, dNo, dSome, dRev, dNev, dSset, dCount, dIndex, dLrg1, dLrg2, dTwo, un_non, un_int, un_bl, un_str, un_lst, un_tup, un_obj, un_dct, un_scr, un_olst, un_oll, un_oobj, un_mv, un_m, un_p, pl_non, pl_int, pl_bl, pl_str, pl_lst, pl_tup, pl_obj, pl_dct, pl_scr, pl_m, pl_p, fzm_non, fzm_int, fzm_bl, fzm_lst, fzm_tup, fzm_obj, fzm_scr, fzm_olst, fzm_oll, fzm_oobj, fzm_m, frz_non, frz_int, frz_bl, frz_str, frz_lst, frz_tup, frz_obj, frz_dct, frz_scr, frz_olst, frz_oll, frz_m, fz_no, fz_tr, see_no, see_tr, asB_bl, asI_int, asgD_non, asgD_int, asgD_bl, asgD_lst, asgD_tup, asgD_obj, asgD_mv, asgD_m, it_lst, it_olst, it_scr, li_lst, li_olst, pit_lst, pit_scr, sz_lst, sz_olst, sz_oll, sz_scr, sz_tup, ad_int, ad_ll, ad_oo, ad_lo, ad_ol, mu_int, mu_l, mu_o, gI_int, gI0_int, gI2_int, ii_eqv, co_int, co_bl, co_non, co_row, co_rowO, co_nil, co_nilO, co_ps, co_p, co_p2, co_rows, ev_ll, ev_ol, ev_lo, ev_oo, ev_ln, ev_lno, ev_on, ev_ono, in_ps, in_row, gEq, gNe, gIn, gNotIn, g1, g2, gLen, gList, δof, List.getElem?_cons_zero, List.getElem?_cons_succ, List.getElem?_nil, List.set_cons_zero, List.set_cons_succ, List.map_cons, List.map_nil, List.length_cons, List.length_nil, List.replicate_succ, List.replicate_zero, List.cons_append, List.nil_append, Option.bind_some, Option.bind_none, List.all_cons, List.all_nil, List.append_nil, Nat.reduceAdd, Nat.reduceSub, true_and, and_true, Bool.and_true, Bool.true_and]
      by_cases c : k < j
      · rw [decide_eq_true c] at hR ⊢
        rw [Bool.true_and] at hR
        simp only [dSeq, dIfS, dT, dTn, dTa, dTo, dOp, dVar, dC, dFz_eq, dCB, dCons, dNil, dCall, dCallB, dMeth, dMethB, dSet, dApp, dExt, dRet, dRetM, dNx, dDrop, dNeg, dAnd, dOr, dNot, dIf, dCh, dCh3, dU, dTup, dLst, dFld, dIsi, dIl, dIe, dIr1, dIr2, dIv1, dgN, dgT, putAll, dFor, dPar2, dPar3, dSetT, dLc, dYes, dSl, dNo, dSome, dRev, dNev, dSset, dCount, dIndex, dLrg1, dLrg2, dTwo, un_non, un_int, un_bl, un_str, un_lst, un_tup, un_obj, un_dct, un_scr, un_olst, un_oll, un_oobj, un_mv, un_m, un_p, pl_non, pl_int, pl_bl, pl_str, pl_lst, pl_tup, pl_obj, pl_dct, pl_scr, pl_m, pl_p, fzm_non, fzm_int, fzm_bl, fzm_lst, fzm_tup, fzm_obj, fzm_scr, fzm_olst, fzm_oll, fzm_oobj, fzm_m, frz_non, frz_int, frz_bl, frz_str, frz_lst, frz_tup, frz_obj, frz_dct, frz_scr, frz_olst, frz_oll, frz_m, fz_no, fz_tr, see_no, see_tr, asB_bl, asI_int, asgD_non, asgD_int, asgD_bl, asgD_lst, asgD_tup, asgD_obj, asgD_mv, asgD_m, it_lst, it_olst, it_scr, li_lst, li_olst, pit_lst, pit_scr, sz_lst, sz_olst, sz_oll, sz_scr, sz_tup, ad_int, ad_ll, ad_oo, ad_lo, ad_ol, mu_int, mu_l, mu_o, gI_int, gI0_int, gI2_int, ii_eqv, co_int, co_bl, co_non, co_row, co_rowO, co_nil, co_nilO, co_ps, co_p, co_p2, co_rows, ev_ll, ev_ol, ev_lo, ev_oo, ev_ln, ev_lno, ev_on, ev_ono, in_ps, in_row, gEq, gNe, gIn, gNotIn, g1, g2, gLen, gList, δof, List.getElem?_cons_zero, List.getElem?_cons_succ, List.getElem?_nil, List.set_cons_zero, List.set_cons_succ, List.map_cons, List.map_nil, List.length_cons, List.length_nil, List.replicate_succ, List.replicate_zero, List.cons_append, List.nil_append, Option.bind_some, Option.bind_none, List.all_cons, List.all_nil, List.append_nil, Nat.reduceAdd, Nat.reduceSub, true_and, and_true, Bool.and_true, Bool.true_and]
        exact ⟨isA_minding, n, ps, k, j, rfl, hR⟩
      · rw [decide_eq_false c] at hR ⊢
        rw [Bool.false_and] at hR
        exact hR
    · simp only [T_couples_c2, dSeq, dIfS, dT, dTn, dTa, dTo, dOp, dVar, dC, dFz_eq, dCB, dCons, dNil, dCall, dCallB, dMeth, dMethB, dSet, dApp, dExt, dRet, dRetM, dNx, dDrop, dNeg, dAnd, dOr, dNot, dIf, dCh, dCh3, dU, dTup, dLst, dFld, dIsi, dIl, dIe, dIr1, dIr2, dIv1, dgN, dgT, putAll, dFor, dPar2, dPar3, dSetT, dLc, dYes, dSl, dNo, dSome, dRev, dNev, dSset, dCount, dIndex, dLrg1, dLrg2, dTwo, un_non, un_int, un_bl, un_str, un_lst, un_tup, un_obj, un_dct, un_scr, un_olst, un_oll, un_oobj, un_mv, un_m, un_p, pl_non, pl_int, pl_bl, pl_str, pl_lst, pl_tup, pl_obj, pl_dct, pl_scr, pl_m, pl_p, fzm_non, fzm_int, fzm_bl, fzm_lst, fzm_tup, fzm_obj, fzm_scr, fzm_olst, fzm_oll, fzm_oobj, fzm_m, frz_non, frz_int, frz_bl, frz_str, frz_lst, frz_tup, frz_obj, frz_dct, frz_scr, frz_olst, frz_oll, frz_m, fz_no, fz_tr, see_no, see_tr, asB_bl, asI_int, asgD_non, asgD_int, asgD_bl, asgD_lst, asgD_tup, asgD_obj, asgD_mv, asgD_m, it_lst, it_olst, it_scr, li_lst, li_olst, pit_lst, pit_scr, sz_lst, sz_olst, sz_oll, sz_scr, sz_tup, ad_int, ad_ll, ad_oo, ad_lo, ad_ol, mu_int, mu_l, mu_o, gI_int, gI0_int, gI2_int, ii_eqv, co_int, co_bl, co_non, co_row, co_rowO, co_nil, co_nilO, co_ps, co_p, co_p2, co_rows, ev_ll, ev_ol, ev_lo, ev_oo, ev_ln, ev_lno, ev_on, ev_ono, in_ps, in_row, gEq, gNe, gIn, gNotIn, g1, g2, gLen, gList, δof, List.getElem?_cons_zero, List.getElem?_cons_succ, List.getElem?_nil, List.set_cons_zero, List.set_cons_succ, List.map_cons, List.map_nil, List.length_cons, List.length_nil, List.replicate_succ, List.replicate_zero, List.cons_append, List.nil_append, Option.bind_some, Option.bind_none, List.all_cons, List.all_nil, List.append_nil, Nat.reduceAdd, Nat.reduceSub, true_and, and_true, Bool.and_true, Bool.true_and]
      exact ⟨by decide, hR⟩
    · rw [List.nil_append]
      simp only [dSeq, dIfS, dT, dTn, dTa, dTo, dOp, dVar, dC, dFz_eq, dCB, dCons, dNil, dCall, dCallB, dMeth, dMethB, dSet, dApp, dExt, dRet, dRetM, dNx, dDrop, dNeg, dAnd, dOr, dNot, dIf, dCh, dCh3, dU, dTup, dLst, dFld, dIsi, dIl, dIe, dIr1, dIr2, dIv1, dgN, dgT, putAll, dFor, dPar2, dPar3, dSetT, dLc, dYes, dSl, dNo, dSome, dRev, dNev, dSset, dCount, dIndex, dLrg1, dLrg2, dTwo, un_non, un_int, un_bl, un_str, un_lst, un_tup, un_obj, un_dct, un_scr, un_olst, un_oll, un_oobj, un_mv, un_m, un_p, pl_non, pl_int, pl_bl, pl_str, pl_lst, pl_tup, pl_obj, pl_dct, pl_scr, pl_m, pl_p, fzm_non, fzm_int, fzm_bl, fzm_lst, fzm_tup, fzm_obj, fzm_scr, fzm_olst, fzm_oll, fzm_oobj, fzm_m, frz_non, frz_int, frz_bl, frz_str, frz_lst, frz_tup, frz_obj, frz_dct, frz_scr, frz_olst, frz_oll, frz_m, fz_no, fz_tr, see_no, see_tr, asB_bl, asI_int, asgD_non, asgD_int, asgD_bl, asgD_lst, asgD_tup, asgD_obj, asgD_mv, asgD_m, it_lst, it_olst, it_scr, li_lst, li_olst, pit_lst, pit_scr, sz_lst, sz_olst, sz_oll, sz_scr, sz_tup, ad_int, ad_ll, ad_oo, ad_lo, ad_ol, mu_int, mu_l, mu_o, gI_int, gI0_int, gI2_int, ii_eqv, co_int, co_bl, co_non, co_row, co_rowO, co_nil, co_nilO, co_ps, co_p, co_p2, co_rows, ev_ll, ev_ol, ev_lo, ev_oo, ev_ln, ev_lno, ev_on, ev_ono, in_ps, in_row, gEq, gNe, gIn, gNotIn, g1, g2, gLen, gList, δof, List.getElem?_cons_zero, List.getElem?_cons_succ, List.getElem?_nil, List.set_cons_zero, List.set_cons_succ, List.map_cons, List.map_nil, List.length_cons, List.length_nil, List.replicate_succ, List.replicate_zero, List.cons_append, List.nil_append, Option.bind_some, Option.bind_none, List.all_cons, List.all_nil, List.append_nil, Nat.reduceAdd, Nat.reduceSub, true_and, and_true, Bool.and_true, Bool.true_and]
      have fl := List.length_filter_le (fun j => decide (k < j) && mnd ps k j) ks
      refine ⟨by rw [List.length_map, List.length_map]; omega, ?_⟩
      rw [hN]
      have z := couples_f (K := K) (n := n) (ps := ps) (one := one) (other := other) (E := E) hk js (acc ++ (ks.filter fun j => decide (k < j) && mnd ps k j).map fun j => (k, j)) (.tr (.int k)) e6
        (by rw [List.length_append, List.length_map]; omega) fun e5 e6 => by
          have q := h e5 e6
          rw [List.flatMap_cons, ← List.append_assoc] at q
          exact q
      rw [List.map_append, List.map_map] at z
      exact z
theorem rd_couples {K : PySem.W.Frag} : ∀ ds Q, G_couples K ds Q → T_couples K { nx := fun _ => Q .non, rt := Q } (δof N_couples.length ds) := by
  rintro _ Q ⟨n, ps, xs, ys, rfl, hx, hy, h⟩
  simp only [T_couples, mK, rD, dSeq, dIfS, dT, dTn, dTa, dTo, dOp, dVar, dC, dFz_eq, dCB, dCons, dNil, dCall, dCallB, dMeth, dMethB, dSet, dApp, dExt, dRet, dRetM, dNx, dDrop, dNeg, dAnd, dOr, dNot, dIf, dCh, dCh3, dU, dTup, dLst, dFld, dIsi, dIl, dIe, dIr1, dIr2, dIv1, dgN, dgT, putAll, dFor, dPar2, dPar3, dSetT, dLc, dYes, dSl, dNo, dSome, dRev, dNev, dSset, dCount, dIndex, dLrg1, dLrg2, dTwo, un_non, un_int, un_bl, un_str, un_lst, un_tup, un_obj, un_dct, un_scr, un_olst, un_oll, un_oobj, un_mv, un_m, un_p, pl_non, pl_int, pl_bl, pl_str, pl_lst, pl_tup, pl_obj, pl_dct, pl_scr, pl_m, pl_p, fzm_non, fzm_int, fzm_bl, fzm_lst, fzm_tup, fzm_obj, fzm_scr, fzm_olst, fzm_oll, fzm_oobj, fzm_m, frz_non, frz_int, frz_bl, frz_str, frz_lst, frz_tup, frz_obj, frz_dct, frz_scr, frz_olst, frz_oll, frz_m, fz_no, fz_tr, see_no, see_tr, asB_bl, asI_int, asgD_non, asgD_int, asgD_bl, asgD_lst, asgD_tup, asgD_obj, asgD_mv, asgD_m, it_lst, it_olst, it_scr, li_lst, li_olst, pit_lst, pit_scr, sz_lst, sz_olst, sz_oll, sz_scr, sz_tup, ad_int, ad_ll, ad_oo, ad_lo, ad_ol, mu_int, mu_l, mu_o, gI_int, gI0_int, gI2_int, ii_eqv, co_int, co_bl, co_non, co_row, co_rowO, co_nil, co_nilO, co_ps, co_p, co_p2, co_rows, ev_ll, ev_ol, ev_lo, ev_oo, ev_ln, ev_lno, ev_on, ev_ono, in_ps, in_row, gEq, gNe, gIn, gNotIn, g1, g2, gLen, gList, δof, List.getElem?_cons_zero, List.getElem?_cons_succ, List.getElem?_nil, List.set_cons_zero, List.set_cons_succ, List.map_cons, List.map_nil, List.length_cons, List.length_nil, List.replicate_succ, List.replicate_zero, List.cons_append, List.nil_append, Option.bind_some, Option.bind_none, List.all_cons, List.all_nil, List.append_nil, Nat.reduceAdd, Nat.reduceSub, true_and, and_true, Bool.and_true, Bool.true_and]
  refine ⟨by rw [List.length_map, List.length_map]; omega, ?_⟩
  rw [← List.map_append]
  simp only [ints_olst]
  refine ⟨by rw [List.length_append]; omega, fun zs up mem => ?_⟩
  rw [srt up mem]
  have lk := uni_len (xs ++ ys)
  rw [List.length_append] at lk
  generalize hks : uni (xs ++ ys) = ks at *
  refine cg0 (f := fun k => pD (k, k)) ks (fun k _ R hR => ?_) (fun _ => rfl) [] (by rw [List.length_nil]; omega) ?_
  · simp only [T_couples_c1, dSeq, dIfS, dT, dTn, dTa, dTo, dOp, dVar, dC, dFz_eq, dCB, dCons, dNil, dCall, dCallB, dMeth, dMethB, dSet, dApp, dExt, dRet, dRetM, dNx, dDrop, dNeg, dAnd, dOr, dNot, dIf, dCh, dCh3, dU, dTup, dLst, dFld, dIsi, dIl, dIe, dIr1, dIr2, dIv1, dgN, dgT, putAll, dFor, dPar2, dPar3, dSetT, dLc, dYes, dSl, dNo, dSome, dRev, dNev, dSset, dCount, dIndex, dLrg1, dLrg2, dTwo, un_non, un_int, un_bl, un_str, un_lst, un_tup, un_obj, un_dct, un_scr, un_olst, un_oll, un_oobj, un_mv, un_m, un_p, pl_non, pl_int, pl_bl, pl_str, pl_lst, pl_tup, pl_obj, pl_dct, pl_scr, pl_m, pl_p, fzm_non, fzm_int, fzm_bl, fzm_lst, fzm_tup, fzm_obj, fzm_scr, fzm_olst, fzm_oll, fzm_oobj, fzm_m, frz_non, frz_int, frz_bl, frz_str, frz_lst, frz_tup, frz_obj, frz_dct, frz_scr, frz_olst, frz_oll, frz_m, fz_no, fz_tr, see_no, see_tr, asB_bl, asI_int, asgD_non, asgD_int, asgD_bl, asgD_lst, asgD_tup, asgD_obj, asgD_mv, asgD_m, it_lst, it_olst, it_scr, li_lst, li_olst, pit_lst, pit_scr, sz_lst, sz_olst, sz_oll, sz_scr, sz_tup, ad_int, ad_ll, ad_oo, ad_lo, ad_ol, mu_int, mu_l, mu_o, gI_int, gI0_int, gI2_int, ii_eqv, co_int, co_bl, co_non, co_row, co_rowO, co_nil, co_nilO, co_ps, co_p, co_p2, co_rows, ev_ll, ev_ol, ev_lo, ev_oo, ev_ln, ev_lno, ev_on, ev_ono, in_ps, in_row, gEq, gNe, gIn, gNotIn, g1, g2, gLen, gList, δof, List.getElem?_cons_zero, List.getElem?_cons_succ, List.getElem?_nil, List.set_cons_zero, List.set_cons_succ, List.map_cons, List.map_nil, List.length_cons, List.length_nil, List.replicate_succ, List.replicate_zero, List.cons_append, List.nil_append, Option.bind_some, Option.bind_none, List.all_cons, List.all_nil, List.append_nil, Nat.reduceAdd, Nat.reduceSub, true_and, and_true, Bool.and_true, Bool.true_and]
    exact ⟨by decide, hR⟩
  · rw [List.nil_append]
    simp only [dSeq, dIfS, dT, dTn, dTa, dTo, dOp, dVar, dC, dFz_eq, dCB, dCons, dNil, dCall, dCallB, dMeth, dMethB, dSet, dApp, dExt, dRet, dRetM, dNx, dDrop, dNeg, dAnd, dOr, dNot, dIf, dCh, dCh3, dU, dTup, dLst, dFld, dIsi, dIl, dIe, dIr1, dIr2, dIv1, dgN, dgT, putAll, dFor, dPar2, dPar3, dSetT, dLc, dYes, dSl, dNo, dSome, dRev, dNev, dSset, dCount, dIndex, dLrg1, dLrg2, dTwo, un_non, un_int, un_bl, un_str, un_lst, un_tup, un_obj, un_dct, un_scr, un_olst, un_oll, un_oobj, un_mv, un_m, un_p, pl_non, pl_int, pl_bl, pl_str, pl_lst, pl_tup, pl_obj, pl_dct, pl_scr, pl_m, pl_p, fzm_non, fzm_int, fzm_bl, fzm_lst, fzm_tup, fzm_obj, fzm_scr, fzm_olst, fzm_oll, fzm_oobj, fzm_m, frz_non, frz_int, frz_bl, frz_str, frz_lst, frz_tup, frz_obj, frz_dct, frz_scr, frz_olst, frz_oll, frz_m, fz_no, fz_tr, see_no, see_tr, asB_bl, asI_int, asgD_non, asgD_int, asgD_bl, asgD_lst, asgD_tup, asgD_obj, asgD_mv, asgD_m, it_lst, it_olst, it_scr, li_lst, li_olst, pit_lst, pit_scr, sz_lst, sz_olst, sz_oll, sz_scr, sz_tup, ad_int, ad_ll, ad_oo, ad_lo, ad_ol, mu_int, mu_l, mu_o, gI_int, gI0_int, gI2_int, ii_eqv, co_int, co_bl, co_non, co_row, co_rowO, co_nil, co_nilO, co_ps, co_p, co_p2, co_rows, ev_ll, ev_ol, ev_lo, ev_oo, ev_ln, ev_lno, ev_on, ev_ono, in_ps, in_row, gEq, gNe, gIn, gNotIn, g1, g2, gLen, gList, δof, List.getElem?_cons_zero, List.getElem?_cons_succ, List.getElem?_nil, List.set_cons_zero, List.set_cons_succ, List.map_cons, List.map_nil, List.length_cons, List.length_nil, List.replicate_succ, List.replicate_zero, List.cons_append, List.nil_append, Option.bind_some, Option.bind_none, List.all_cons, List.all_nil, List.append_nil, Nat.reduceAdd, Nat.reduceSub, true_and, and_true, Bool.and_true, Bool.true_and]
    have e : ks.map (fun k => pD (k, k)) = (ks.map fun k => (k, k)).map pD := by rw [List.map_map]; rfl
    rw [e]
    refine couples_f (K := K) (n := n) (ps := ps) (ks := ks) (by omega) ks _ _ _ (by rw [List.length_map]; omega) fun e5 e6 => ?_
    simp only [mK, rD, dSeq, dIfS, dT, dTn, dTa, dTo, dOp, dVar, dC, dFz_eq, dCB, dCons, dNil, dCall, dCallB, dMeth, dMethB, dSet, dApp, dExt, dRet, dRetM, dNx, dDrop, dNeg, dAnd, dOr, dNot, dIf, dCh, dCh3, dU, dTup, dLst, dFld, dIsi, dIl, dIe, dIr1, dIr2, dIv1, dgN, dgT, putAll, dFor, dPar2, dPar3, dSetT, dLc, dYes, dSl, dNo, dSome, dRev, dNev, dSset, dCount, dIndex, dLrg1, dLrg2, dTwo, un_non, un_int, un_bl, un_str, un_lst, un_tup, un_obj, un_dct, un_scr, un_olst, un_oll, un_oobj, un_mv, un_m, un_p, pl_non, pl_int, pl_bl, pl_str, pl_lst, pl_tup, pl_obj, pl_dct, pl_scr, pl_m, pl_p, fzm_non, fzm_int, fzm_bl, fzm_lst, fzm_tup, fzm_obj, fzm_scr, fzm_olst, fzm_oll, fzm_oobj, fzm_m, frz_non, frz_int, frz_bl, frz_str, frz_lst, frz_tup, frz_obj, frz_dct, frz_scr, frz_olst, frz_oll, frz_m, fz_no, fz_tr, see_no, see_tr, asB_bl, asI_int, asgD_non, asgD_int, asgD_bl, asgD_lst, asgD_tup, asgD_obj, asgD_mv, asgD_m, it_lst, it_olst, it_scr, li_lst, li_olst, pit_lst, pit_scr, sz_lst, sz_olst, sz_oll, sz_scr, sz_tup, ad_int, ad_ll, ad_oo, ad_lo, ad_ol, mu_int, mu_l, mu_o, gI_int, gI0_int, gI2_int, ii_eqv, co_int, co_bl, co_non, co_row, co_rowO, co_nil, co_nilO, co_ps, co_p, co_p2, co_rows, ev_ll, ev_ol, ev_lo, ev_oo, ev_ln, ev_lno, ev_on, ev_ono, in_ps, in_row, gEq, gNe, gIn, gNotIn, g1, g2, gLen, gList, δof, List.getElem?_cons_zero, List.getElem?_cons_succ, List.getElem?_nil, List.set_cons_zero, List.set_cons_succ, List.map_cons, List.map_nil, List.length_cons, List.length_nil, List.replicate_succ, List.replicate_zero, List.cons_append, List.nil_append, Option.bind_some, Option.bind_none, List.all_cons, List.all_nil, List.append_nil, Nat.reduceAdd, Nat.reduceSub, true_and, and_true, Bool.and_true, Bool.true_and]
    exact h
def unF (m : Int → Int → Bool) (xs ys : List Int) : Option (Int × Int) := (cpl m (uni (xs ++ ys))).find? fun c => decide (prt c.1 c.2 xs ≠ prt c.1 c.2 ys)
def G_unlike (K : PySem.W.Frag) : GD := fun ds P => ∃ n ps xs ys, ds = [mK K n ps, rD xs, rD ys] ∧ xs.length ≤ 130 ∧ ys.length ≤ 130 ∧ (match unF (mnd ps) xs ys with
  | some c => P (pD c)
  | none => P .non)
/-! ### unlike -/
abbrev N_unlike : List Str := ["minds", "one", "other", "first", "second"]
def T_unlike_f1 (K : PySem.W.Frag) : DS := (dIfS (dT (dOp gNe (dCall (G_part_of K) (dCons (dVar 1) (dCons (dVar 3) (dCons (dVar 4) dNil)))) (dCall (G_part_of K) (dCons (dVar 2) (dCons (dVar 3) (dCons (dVar 4) dNil)))))) (dRet (dTup (dCons (dVar 3) (dCons (dVar 4) dNil)))) dNx)
def T_unlike (K : PySem.W.Frag) : DS := (dSeq (dFor (dIl (dFz (dCall (G_couples K) (dCons (dVar 0) (dCons (dVar 1) (dCons (dVar 2) dNil)))))) (dgT [3, 4]) (T_unlike_f1 K))
  (dRet (dC .non)))
theorem unlike_f {K : PySem.W.Frag} {d0 : D} {xs ys : List Int} {E : EndsD} (hx : xs.length ≤ 1000) (hy : ys.length ≤ 1000) : ∀ (cs : List (Int × Int)) (e3 e4 : DV),
    (match cs.find? fun c => decide (prt c.1 c.2 xs ≠ prt c.1 c.2 ys) with
      | some c => E.rt (pD c)
      | none => ∀ e3 e4, E.nx [.tr d0, .tr (rD xs), .tr (rD ys), e3, e4]) →
    forGo (dgT [3, 4]) (T_unlike_f1 K) E (cs.map pD) [.tr d0, .tr (rD xs), .tr (rD ys), e3, e4]
  | [], e3, e4, h => h e3 e4
  | c :: cs, e3, e4, h => by
    refine forGo_op fun N hN => ?_
    simp only [T_unlike_f1, rD, pD, dSeq, dIfS, dT, dTn, dTa, dTo, dOp, dVar, dC, dFz_eq, dCB, dCons, dNil, dCall, dCallB, dMeth, dMethB, dSet, dApp, dExt, dRet, dRetM, dNx, dDrop, dNeg, dAnd, dOr, dNot, dIf, dCh, dCh3, dU, dTup, dLst, dFld, dIsi, dIl, dIe, dIr1, dIr2, dIv1, dgN, dgT, putAll, dFor, dPar2, dPar3, dSetT, dLc, dYes, dSl, dNo, dSome, dRev, dNev, dSset, dCount, dIndex, dLrg1, dLrg2, dTwo, un_non, un_int, un_bl, un_str, un_lst, un_tup, un_obj, un_dct, un_scr, un_olst, un_oll, un_oobj, un_mv, un_m, un_p, pl_non, pl_int, pl_bl, pl_str, pl_lst, pl_tup, pl_obj, pl_dct, pl_scr, pl_m, pl_p, fzm_non, fzm_int, fzm_bl, fzm_lst, fzm_tup, fzm_obj, fzm_scr, fzm_olst, fzm_oll, fzm_oobj, fzm_m, frz_non, frz_int, frz_bl, frz_str, frz_lst, frz_tup, frz_obj, frz_dct, frz_scr, frz_olst, frz_oll, frz_m, fz_no, fz_tr, see_no, see_tr, asB_bl, asI_int, asgD_non, asgD_int, asgD_bl, asgD_lst, asgD_tup, asgD_obj, asgD_mv, asgD_m, it_lst, it_olst, it_scr, li_lst, li_olst, pit_lst, pit_scr, sz_lst, sz_olst, sz_oll, sz_scr, sz_tup, ad_int, ad_ll, ad_oo, ad_lo, ad_ol, mu_int, mu_l, mu_o, gI_int, gI0_int, gI2_int, ii_eqv, co_int, co_bl, co_non, co_row, co_rowO, co_nil, co_nilO, co_ps, co_p, co_p2, co_rows, ev_ll, ev_ol, ev_lo, ev_oo, ev_ln, ev_lno, ev_on, ev_ono, in_ps, in_row, gEq, gNe, gIn, gNotIn, g1, g2, gLen, gList, δof, List.getElem?_cons_zero, List.getElem?_cons_succ, List.getElem?_nil, List.set_cons_zero, List.set_cons_succ, List.map_cons, List.map_nil, List.length_cons, List.length_nil, List.replicate_succ, List.replicate_zero, List.cons_append, List.nil_append, Option.bind_some, Option.bind_none, List.all_cons, List.all_nil, List.append_nil, Nat.reduceAdd, Nat.reduceSub, true_and, and_true, Bool.and_true, Bool.true_and]
    refine ⟨xs, c.1, c.2, rfl, hx, ?_⟩
    simp only [dSeq, dIfS, dT, dTn, dTa, dTo, dOp, dVar, dC, dFz_eq, dCB, dCons, dNil, dCall, dCallB, dMeth, dMethB, dSet, dApp, dExt, dRet, dRetM, dNx, dDrop, dNeg, dAnd, dOr, dNot, dIf, dCh, dCh3, dU, dTup, dLst, dFld, dIsi, dIl, dIe, dIr1, dIr2, dIv1, dgN, dgT, putAll, dFor, dPar2, dPar3, dSetT, dLc, dYes, dSl, dNo, dSome, dRev, dNev, dSset, dCount, dIndex, dLrg1, dLrg2, dTwo, un_non, un_int, un_bl, un_str, un_lst, un_tup, un_obj, un_dct, un_scr, un_olst, un_oll, un_oobj, un_mv, un_m, un_p, pl_non, pl_int, pl_bl, pl_str, pl_lst, pl_tup, pl_obj, pl_dct, pl_scr, pl_m, pl_p, fzm_non, fzm_int, fzm_bl, fzm_lst, fzm_tup, fzm_obj, fzm_scr, fzm_olst, fzm_oll, fzm_oobj, fzm_m, frz_non, frz_int, frz_bl, frz_str, frz_lst, frz_tup, frz_obj, frz_dct, frz_scr, frz_olst, frz_oll, frz_m, fz_no, fz_tr, see_no, see_tr, asB_bl, asI_int, asgD_non, asgD_int, asgD_bl, asgD_lst, asgD_tup, asgD_obj, asgD_mv, asgD_m, it_lst, it_olst, it_scr, li_lst, li_olst, pit_lst, pit_scr, sz_lst, sz_olst, sz_oll, sz_scr, sz_tup, ad_int, ad_ll, ad_oo, ad_lo, ad_ol, mu_int, mu_l, mu_o, gI_int, gI0_int, gI2_int, ii_eqv, co_int, co_bl, co_non, co_row, co_rowO, co_nil, co_nilO, co_ps, co_p, co_p2, co_rows, ev_ll, ev_ol, ev_lo, ev_oo, ev_ln, ev_lno, ev_on, ev_ono, in_ps, in_row, gEq, gNe, gIn, gNotIn, g1, g2, gLen, gList, δof, List.getElem?_cons_zero, List.getElem?_cons_succ, List.getElem?_nil, List.set_cons_zero, List.set_cons_succ, List.map_cons, List.map_nil, List.length_cons, List.length_nil, List.replicate_succ, List.replicate_zero, List.cons_append, List.nil_append, Option.bind_some, Option.bind_none, List.all_cons, List.all_nil, List.append_nil, Nat.reduceAdd, Nat.reduceSub, true_and, and_true, Bool.and_true, Bool.true_and]
    refine ⟨ys, c.1, c.2, rfl, hy, ?_⟩
    simp only [dSeq, dIfS, dT, dTn, dTa, dTo, dOp, dVar, dC, dFz_eq, dCB, dCons, dNil, dCall, dCallB, dMeth, dMethB, dSet, dApp, dExt, dRet, dRetM, dNx, dDrop, dNeg, dAnd, dOr, dNot, dIf, dCh, dCh3, dU, dTup, dLst, dFld, dIsi, dIl, dIe, dIr1, dIr2, dIv1, dgN, dgT, putAll, dFor, dPar2, dPar3, dSetT, dLc, dYes, dSl, dNo, dSome, dRev, dNev, dSset, dCount, dIndex, dLrg1, dLrg2, dTwo, un_non, un_int, un_bl, un_str, un_lst, un_tup, un_obj, un_dct, un_scr, un_olst, un_oll, un_oobj, un_mv, un_m, un_p, pl_non, pl_int, pl_bl, pl_str, pl_lst, pl_tup, pl_obj, pl_dct, pl_scr, pl_m, pl_p, fzm_non, fzm_int, fzm_bl, fzm_lst, fzm_tup, fzm_obj, fzm_scr, fzm_olst, fzm_oll, fzm_oobj, fzm_m, frz_non, frz_int, frz_bl, frz_str, frz_lst, frz_tup, frz_obj, frz_dct, frz_scr, frz_olst, frz_oll, frz_m, fz_no, fz_tr, see_no, see_tr, asB_bl, asI_int, asgD_non, asgD_int, asgD_bl, asgD_lst, asgD_tup, asgD_obj, asgD_mv, asgD_m, it_lst, it_olst, it_scr, li_lst, li_olst, pit_lst, pit_scr, sz_lst, sz_olst, sz_oll, sz_scr, sz_tup, ad_int, ad_ll, ad_oo, ad_lo, ad_ol, mu_int, mu_l, mu_o, gI_int, gI0_int, gI2_int, ii_eqv, co_int, co_bl, co_non, co_row, co_rowO, co_nil, co_nilO, co_ps, co_p, co_p2, co_rows, ev_ll, ev_ol, ev_lo, ev_oo, ev_ln, ev_lno, ev_on, ev_ono, in_ps, in_row, gEq, gNe, gIn, gNotIn, g1, g2, gLen, gList, δof, List.getElem?_cons_zero, List.getElem?_cons_succ, List.getElem?_nil, List.set_cons_zero, List.set_cons_succ, List.map_cons, List.map_nil, List.length_cons, List.length_nil, List.replicate_succ, List.replicate_zero, List.cons_append, List.nil_append, Option.bind_some, Option.bind_none, List.all_cons, List.all_nil, List.append_nil, Nat.reduceAdd, Nat.reduceSub, true_and, and_true, Bool.and_true, Bool.true_and]
    rw [List.find?_cons] at h
    by_cases e : prt c.1 c.2 xs = prt c.1 c.2 ys
    · rw [decide_eq_false (fun z => z e)] at h
      rw [decide_eq_true e]
      simp only [dSeq, dIfS, dT, dTn, dTa, dTo, dOp, dVar, dC, dFz_eq, dCB, dCons, dNil, dCall, dCallB, dMeth, dMethB, dSet, dApp, dExt, dRet, dRetM, dNx, dDrop, dNeg, dAnd, dOr, dNot, dIf, dCh, dCh3, dU, dTup, dLst, dFld, dIsi, dIl, dIe, dIr1, dIr2, dIv1, dgN, dgT, putAll, dFor, dPar2, dPar3, dSetT, dLc, dYes, dSl, dNo, dSome, dRev, dNev, dSset, dCount, dIndex, dLrg1, dLrg2, dTwo, un_non, un_int, un_bl, un_str, un_lst, un_tup, un_obj, un_dct, un_scr, un_olst, un_oll, un_oobj, un_mv, un_m, un_p, pl_non, pl_int, pl_bl, pl_str, pl_lst, pl_tup, pl_obj, pl_dct, pl_scr, pl_m, pl_p, fzm_non, fzm_int, fzm_bl, fzm_lst, fzm_tup, fzm_obj, fzm_scr, fzm_olst, fzm_oll, fzm_oobj, fzm_m, frz_non, frz_int, frz_bl, frz_str, frz_lst, frz_tup, frz_obj, frz_dct, frz_scr, frz_olst, frz_oll, frz_m, fz_no, fz_tr, see_no, see_tr, asB_bl, asI_int, asgD_non, asgD_int, asgD_bl, asgD_lst, asgD_tup, asgD_obj, asgD_mv, asgD_m, it_lst, it_olst, it_scr, li_lst, li_olst, pit_lst, pit_scr, sz_lst, sz_olst, sz_oll, sz_scr, sz_tup, ad_int, ad_ll, ad_oo, ad_lo, ad_ol, mu_int, mu_l, mu_o, gI_int, gI0_int, gI2_int, ii_eqv, co_int, co_bl, co_non, co_row, co_rowO, co_nil, co_nilO, co_ps, co_p, co_p2, co_rows, ev_ll, ev_ol, ev_lo, ev_oo, ev_ln, ev_lno, ev_on, ev_ono, in_ps, in_row, gEq, gNe, gIn, gNotIn, g1, g2, gLen, gList, δof, List.getElem?_cons_zero, List.getElem?_cons_succ, List.getElem?_nil, List.set_cons_zero, List.set_cons_succ, List.map_cons, List.map_nil, List.length_cons, List.length_nil, List.replicate_succ, List.replicate_zero, List.cons_append, List.nil_append, Option.bind_some, Option.bind_none, List.all_cons, List.all_nil, List.append_nil, Nat.reduceAdd, Nat.reduceSub, true_and, and_true, Bool.and_true, Bool.true_and, Bool.not_true]
      rw [hN]
      exact unlike_f hx hy cs _ _ h
    · rw [decide_eq_true e] at h
      rw [decide_eq_false e]
      simp only [dSeq, dIfS, dT, dTn, dTa, dTo, dOp, dVar, dC, dFz_eq, dCB, dCons, dNil, dCall, dCallB, dMeth, dMethB, dSet, dApp, dExt, dRet, dRetM, dNx, dDrop, dNeg, dAnd, dOr, dNot, dIf, dCh, dCh3, dU, dTup, dLst, dFld, dIsi, dIl, dIe, dIr1, dIr2, dIv1, dgN, dgT, putAll, dFor, dPar2, dPar3, dSetT, dLc, dYes, dSl, dNo, dSome, dRev, dNev, dSset, dCount, dIndex, dLrg1, dLrg2, dTwo, un_non, un_int, un_bl, un_str, un_lst, un_tup, un_obj, un_dct, un_scr, un_olst, un_oll, un_oobj, un_mv, un_m, un_p, pl_non, pl_int, pl_bl, pl_str, pl_lst, pl_tup, pl_obj, pl_dct, pl_scr, pl_m, pl_p, fzm_non, fzm_int, fzm_bl, fzm_lst, fzm_tup, fzm_obj, fzm_scr, fzm_olst, fzm_oll, fzm_oobj, fzm_m, frz_non, frz_int, frz_bl, frz_str, frz_lst, frz_tup, frz_obj, frz_dct, frz_scr, frz_olst, frz_oll, frz_m, fz_no, fz_tr, see_no, see_tr, asB_bl, asI_int, asgD_non, asgD_int, asgD_bl, asgD_lst, asgD_tup, asgD_obj, asgD_mv, asgD_m, it_lst, it_olst, it_scr, li_lst, li_olst, pit_lst, pit_scr, sz_lst, sz_olst, sz_oll, sz_scr, sz_tup, ad_int, ad_ll, ad_oo, ad_lo, ad_ol, mu_int, mu_l, mu_o, gI_int, gI0_int, gI2_int, ii_eqv, co_int, co_bl, co_non, co_row, co_rowO, co_nil, co_nilO, co_ps, co_p, co_p2, co_rows, ev_ll, ev_ol, ev_lo, ev_oo, ev_ln, ev_lno, ev_on, ev_ono, in_ps, in_row, gEq, gNe, gIn, gNotIn, g1, g2, gLen, gList, δof, List.getElem?_cons_zero, List.getElem?_cons_succ, List.getElem?_nil, List.set_cons_zero, List.set_cons_succ, List.map_cons, List.map_nil, List.length_cons, List.length_nil, List.replicate_succ, List.replicate_zero, List.cons_append, List.nil_append, Option.bind_some, Option.bind_none, List.all_cons, List.all_nil, List.append_nil, Nat.reduceAdd, Nat.reduceSub, true_and, and_true, Bool.and_true, Bool.true_and, Bool.not_false]
      exact ⟨by decide, h⟩
theorem rd_unlike {K : PySem.W.Frag} : ∀ ds Q, G_unlike K ds Q → T_unlike K { nx := fun _ => Q .non, rt := Q } (δof N_unlike.length ds) := by
  rintro _ Q ⟨n, ps, xs, ys, rfl, hx, hy, h⟩
  simp only [T_unlike, mK, rD, dSeq, dIfS, dT, dTn, dTa, dTo, dOp, dVar, dC, dFz_eq, dCB, dCons, dNil, dCall, dCallB, dMeth, dMethB, dSet, dApp, dExt, dRet, dRetM, dNx, dDrop, dNeg, dAnd, dOr, dNot, dIf, dCh, dCh3, dU, dTup, dLst, dFld, dIsi, dIl, dIe, dIr1, dIr2, dIv1, dgN, dgT, putAll, dFor, dPar2, dPar3, dSetT, dLc, dYes, dSl, dNo, dSome, dRev, dNev, dSset, dCount, dIndex, dLrg1, dLrg2, dTwo, un_non, un_int, un_bl, un_str, un_lst, un_tup, un_obj, un_dct, un_scr, un_olst, un_oll, un_oobj, un_mv, un_m, un_p, pl_non, pl_int, pl_bl, pl_str, pl_lst, pl_tup, pl_obj, pl_dct, pl_scr, pl_m, pl_p, fzm_non, fzm_int, fzm_bl, fzm_lst, fzm_tup, fzm_obj, fzm_scr, fzm_olst, fzm_oll, fzm_oobj, fzm_m, frz_non, frz_int, frz_bl, frz_str, frz_lst, frz_tup, frz_obj, frz_dct, frz_scr, frz_olst, frz_oll, frz_m, fz_no, fz_tr, see_no, see_tr, asB_bl, asI_int, asgD_non, asgD_int, asgD_bl, asgD_lst, asgD_tup, asgD_obj, asgD_mv, asgD_m, it_lst, it_olst, it_scr, li_lst, li_olst, pit_lst, pit_scr, sz_lst, sz_olst, sz_oll, sz_scr, sz_tup, ad_int, ad_ll, ad_oo, ad_lo, ad_ol, mu_int, mu_l, mu_o, gI_int, gI0_int, gI2_int, ii_eqv, co_int, co_bl, co_non, co_row, co_rowO, co_nil, co_nilO, co_ps, co_p, co_p2, co_rows, ev_ll, ev_ol, ev_lo, ev_oo, ev_ln, ev_lno, ev_on, ev_ono, in_ps, in_row, gEq, gNe, gIn, gNotIn, g1, g2, gLen, gList, δof, List.getElem?_cons_zero, List.getElem?_cons_succ, List.getElem?_nil, List.set_cons_zero, List.set_cons_succ, List.map_cons, List.map_nil, List.length_cons, List.length_nil, List.replicate_succ, List.replicate_zero, List.cons_append, List.nil_append, Option.bind_some, Option.bind_none, List.all_cons, List.all_nil, List.append_nil, Nat.reduceAdd, Nat.reduceSub, true_and, and_true, Bool.and_true, Bool.true_and]
  refine ⟨n, ps, xs, ys, rfl, hx, hy, ?_⟩
  refine unlike_f (K := K) (by omega) (by omega) _ _ _ ?_
  show (match unF (mnd ps) xs ys with
    | some c => _
    | none => _)
  cases e : unF (mnd ps) xs ys with
  | some c =>
    rw [e] at h
    exact h
  | none =>
    rw [e] at h
    intro e3 e4
    exact h
/-! ### are_kinds, same -/
def G_are_kinds (K : PySem.W.Frag) : GD := fun ds P => ∃ n ps xs, ds = [mK K n ps, rD xs] ∧ xs.length ≤ 1000 ∧ P (.bl (xs.all (kB n)))
/-! ### are_kinds -/
abbrev N_are_kinds : List Str := ["minds", "kinds", "kind"]
def T_are_kinds_c1 (K : PySem.W.Frag) : DE := (dFz (dMeth (He.ga K "Minds") "is_kind" (G_Minds_is_kind K) (dVar 0) (dCons (dVar 2) dNil)))
def T_are_kinds (K : PySem.W.Frag) : DS := (dRet (dCB gAll (dCons (dLc 2 (dIl (dVar 1)) dYes (T_are_kinds_c1 K)) dNil)))
theorem rd_are_kinds {K : PySem.W.Frag} : ∀ ds Q, G_are_kinds K ds Q → T_are_kinds K { nx := fun _ => Q .non, rt := Q } (δof N_are_kinds.length ds) := by
  rintro _ Q ⟨n, ps, xs, rfl, hl, h⟩
  simp only [T_are_kinds, mK, rD, dSeq, dIfS, dT, dTn, dTa, dTo, dOp, dVar, dC, dFz_eq, dCB, dCons, dNil, dCall, dCallB, dMeth, dMethB, dSet, dApp, dExt, dRet, dRetM, dNx, dDrop, dNeg, dAnd, dOr, dNot, dIf, dCh, dCh3, dU, dTup, dLst, dFld, dIsi, dIl, dIe, dIr1, dIr2, dIv1, dgN, dgT, putAll, dFor, dPar2, dPar3, dSetT, dLc, dYes, dSl, dNo, dSome, dRev, dNev, dSset, dCount, dIndex, dLrg1, dLrg2, dTwo, un_non, un_int, un_bl, un_str, un_lst, un_tup, un_obj, un_dct, un_scr, un_olst, un_oll, un_oobj, un_mv, un_m, un_p, pl_non, pl_int, pl_bl, pl_str, pl_lst, pl_tup, pl_obj, pl_dct, pl_scr, pl_m, pl_p, fzm_non, fzm_int, fzm_bl, fzm_lst, fzm_tup, fzm_obj, fzm_scr, fzm_olst, fzm_oll, fzm_oobj, fzm_m, frz_non, frz_int, frz_bl, frz_str, frz_lst, frz_tup, frz_obj, frz_dct, frz_scr, frz_olst, frz_oll, frz_m, fz_no, fz_tr, see_no, see_tr, asB_bl, asI_int, asgD_non, asgD_int, asgD_bl, asgD_lst, asgD_tup, asgD_obj, asgD_mv, asgD_m, it_lst, it_olst, it_scr, li_lst, li_olst, pit_lst, pit_scr, sz_lst, sz_olst, sz_oll, sz_scr, sz_tup, ad_int, ad_ll, ad_oo, ad_lo, ad_ol, mu_int, mu_l, mu_o, gI_int, gI0_int, gI2_int, ii_eqv, co_int, co_bl, co_non, co_row, co_rowO, co_nil, co_nilO, co_ps, co_p, co_p2, co_rows, ev_ll, ev_ol, ev_lo, ev_oo, ev_ln, ev_lno, ev_on, ev_ono, in_ps, in_row, gEq, gNe, gIn, gNotIn, g1, g2, gLen, gList, δof, List.getElem?_cons_zero, List.getElem?_cons_succ, List.getElem?_nil, List.set_cons_zero, List.set_cons_succ, List.map_cons, List.map_nil, List.length_cons, List.length_nil, List.replicate_succ, List.replicate_zero, List.cons_append, List.nil_append, Option.bind_some, Option.bind_none, List.all_cons, List.all_nil, List.append_nil, Nat.reduceAdd, Nat.reduceSub, true_and, and_true, Bool.and_true, Bool.true_and]
  refine cg0 (f := fun x => .bl (kB n x)) xs (fun x _ R hR => ?_) (fun _ => rfl) [] (by rw [List.length_nil]; omega) ?_
  · simp only [T_are_kinds_c1, mK, dSeq, dIfS, dT, dTn, dTa, dTo, dOp, dVar, dC, dFz_eq, dCB, dCons, dNil, dCall, dCallB, dMeth, dMethB, dSet, dApp, dExt, dRet, dRetM, dNx, dDrop, dNeg, dAnd, dOr, dNot, dIf, dCh, dCh3, dU, dTup, dLst, dFld, dIsi, dIl, dIe, dIr1, dIr2, dIv1, dgN, dgT, putAll, dFor, dPar2, dPar3, dSetT, dLc, dYes, dSl, dNo, dSome, dRev, dNev, dSset, dCount, dIndex, dLrg1, dLrg2, dTwo, un_non, un_int, un_bl, un_str, un_lst, un_tup, un_obj, un_dct, un_scr, un_olst, un_oll, un_oobj, un_mv, un_m, un_p, pl_non, pl_int, pl_bl, pl_str, pl_lst, pl_tup, pl_obj, pl_dct, pl_scr, pl_m, pl_p, fzm_non, fzm_int, fzm_bl, fzm_lst, fzm_tup, fzm_obj, fzm_scr, fzm_olst, fzm_oll, fzm_oobj, fzm_m, frz_non, frz_int, frz_bl, frz_str, frz_lst, frz_tup, frz_obj, frz_dct, frz_scr, frz_olst, frz_oll, frz_m, fz_no, fz_tr, see_no, see_tr, asB_bl, asI_int, asgD_non, asgD_int, asgD_bl, asgD_lst, asgD_tup, asgD_obj, asgD_mv, asgD_m, it_lst, it_olst, it_scr, li_lst, li_olst, pit_lst, pit_scr, sz_lst, sz_olst, sz_oll, sz_scr, sz_tup, ad_int, ad_ll, ad_oo, ad_lo, ad_ol, mu_int, mu_l, mu_o, gI_int, gI0_int, gI2_int, ii_eqv, co_int, co_bl, co_non, co_row, co_rowO, co_nil, co_nilO, co_ps, co_p, co_p2, co_rows, ev_ll, ev_ol, ev_lo, ev_oo, ev_ln, ev_lno, ev_on, ev_ono, in_ps, in_row, gEq, gNe, gIn, gNotIn, g1, g2, gLen, gList, δof, List.getElem?_cons_zero, List.getElem?_cons_succ, List.getElem?_nil, List.set_cons_zero, List.set_cons_succ, List.map_cons, List.map_nil, List.length_cons, List.length_nil, List.replicate_succ, List.replicate_zero, List.cons_append, List.nil_append, Option.bind_some, Option.bind_none, List.all_cons, List.all_nil, List.append_nil, Nat.reduceAdd, Nat.reduceSub, true_and, and_true, Bool.and_true, Bool.true_and]
    exact ⟨isA_is_kind, n, ps, x, rfl, hR⟩
  · exact ga_map h
def G_same (K : PySem.W.Frag) : GD := fun ds P => ∃ n ps xs ys, ds = [mK K n ps, rD xs, rD ys] ∧ xs.length ≤ 200 ∧ ys.length ≤ 200 ∧ P (.bl ((xs ++ ys).all (kB n) && (ledF (mnd ps) xs ys).isSome))
/-! ### same -/
abbrev N_same : List Str := ["minds", "one", "other"]
def T_same (K : PySem.W.Frag) : DS := (dRet (dAnd (dCall (G_are_kinds K) (dCons (dVar 0) (dCons (dFz (dOp gAdd (dVar 1) (dVar 2))) dNil))) (dU (fun x => .bl (!x.isNon)) (dCall (G_led K) (dCons (dVar 0) (dCons (dVar 1) (dCons (dVar 2) dNil)))))))
theorem rd_same {K : PySem.W.Frag} : ∀ ds Q, G_same K ds Q → T_same K { nx := fun _ => Q .non, rt := Q } (δof N_same.length ds) := by
  rintro _ Q ⟨n, ps, xs, ys, rfl, hx, hy, h⟩
  simp only [T_same, mK, rD, dSeq, dIfS, dT, dTn, dTa, dTo, dOp, dVar, dC, dFz_eq, dCB, dCons, dNil, dCall, dCallB, dMeth, dMethB, dSet, dApp, dExt, dRet, dRetM, dNx, dDrop, dNeg, dAnd, dOr, dNot, dIf, dCh, dCh3, dU, dTup, dLst, dFld, dIsi, dIl, dIe, dIr1, dIr2, dIv1, dgN, dgT, putAll, dFor, dPar2, dPar3, dSetT, dLc, dYes, dSl, dNo, dSome, dRev, dNev, dSset, dCount, dIndex, dLrg1, dLrg2, dTwo, un_non, un_int, un_bl, un_str, un_lst, un_tup, un_obj, un_dct, un_scr, un_olst, un_oll, un_oobj, un_mv, un_m, un_p, pl_non, pl_int, pl_bl, pl_str, pl_lst, pl_tup, pl_obj, pl_dct, pl_scr, pl_m, pl_p, fzm_non, fzm_int, fzm_bl, fzm_lst, fzm_tup, fzm_obj, fzm_scr, fzm_olst, fzm_oll, fzm_oobj, fzm_m, frz_non, frz_int, frz_bl, frz_str, frz_lst, frz_tup, frz_obj, frz_dct, frz_scr, frz_olst, frz_oll, frz_m, fz_no, fz_tr, see_no, see_tr, asB_bl, asI_int, asgD_non, asgD_int, asgD_bl, asgD_lst, asgD_tup, asgD_obj, asgD_mv, asgD_m, it_lst, it_olst, it_scr, li_lst, li_olst, pit_lst, pit_scr, sz_lst, sz_olst, sz_oll, sz_scr, sz_tup, ad_int, ad_ll, ad_oo, ad_lo, ad_ol, mu_int, mu_l, mu_o, gI_int, gI0_int, gI2_int, ii_eqv, co_int, co_bl, co_non, co_row, co_rowO, co_nil, co_nilO, co_ps, co_p, co_p2, co_rows, ev_ll, ev_ol, ev_lo, ev_oo, ev_ln, ev_lno, ev_on, ev_ono, in_ps, in_row, gEq, gNe, gIn, gNotIn, g1, g2, gLen, gList, δof, List.getElem?_cons_zero, List.getElem?_cons_succ, List.getElem?_nil, List.set_cons_zero, List.set_cons_succ, List.map_cons, List.map_nil, List.length_cons, List.length_nil, List.replicate_succ, List.replicate_zero, List.cons_append, List.nil_append, Option.bind_some, Option.bind_none, List.all_cons, List.all_nil, List.append_nil, Nat.reduceAdd, Nat.reduceSub, true_and, and_true, Bool.and_true, Bool.true_and]
  refine ⟨by rw [List.length_map, List.length_map]; omega, ?_⟩
  rw [← List.map_append]
  refine ⟨n, ps, xs ++ ys, rfl, by rw [List.length_append]; omega, ?_⟩
  cases hk : (xs ++ ys).all (kB n) with
  | false =>
    rw [hk] at h
    exact h
  | true =>
    rw [hk] at h
    simp only [dSeq, dIfS, dT, dTn, dTa, dTo, dOp, dVar, dC, dFz_eq, dCB, dCons, dNil, dCall, dCallB, dMeth, dMethB, dSet, dApp, dExt, dRet, dRetM, dNx, dDrop, dNeg, dAnd, dOr, dNot, dIf, dCh, dCh3, dU, dTup, dLst, dFld, dIsi, dIl, dIe, dIr1, dIr2, dIv1, dgN, dgT, putAll, dFor, dPar2, dPar3, dSetT, dLc, dYes, dSl, dNo, dSome, dRev, dNev, dSset, dCount, dIndex, dLrg1, dLrg2, dTwo, un_non, un_int, un_bl, un_str, un_lst, un_tup, un_obj, un_dct, un_scr, un_olst, un_oll, un_oobj, un_mv, un_m, un_p, pl_non, pl_int, pl_bl, pl_str, pl_lst, pl_tup, pl_obj, pl_dct, pl_scr, pl_m, pl_p, fzm_non, fzm_int, fzm_bl, fzm_lst, fzm_tup, fzm_obj, fzm_scr, fzm_olst, fzm_oll, fzm_oobj, fzm_m, frz_non, frz_int, frz_bl, frz_str, frz_lst, frz_tup, frz_obj, frz_dct, frz_scr, frz_olst, frz_oll, frz_m, fz_no, fz_tr, see_no, see_tr, asB_bl, asI_int, asgD_non, asgD_int, asgD_bl, asgD_lst, asgD_tup, asgD_obj, asgD_mv, asgD_m, it_lst, it_olst, it_scr, li_lst, li_olst, pit_lst, pit_scr, sz_lst, sz_olst, sz_oll, sz_scr, sz_tup, ad_int, ad_ll, ad_oo, ad_lo, ad_ol, mu_int, mu_l, mu_o, gI_int, gI0_int, gI2_int, ii_eqv, co_int, co_bl, co_non, co_row, co_rowO, co_nil, co_nilO, co_ps, co_p, co_p2, co_rows, ev_ll, ev_ol, ev_lo, ev_oo, ev_ln, ev_lno, ev_on, ev_ono, in_ps, in_row, gEq, gNe, gIn, gNotIn, g1, g2, gLen, gList, δof, List.getElem?_cons_zero, List.getElem?_cons_succ, List.getElem?_nil, List.set_cons_zero, List.set_cons_succ, List.map_cons, List.map_nil, List.length_cons, List.length_nil, List.replicate_succ, List.replicate_zero, List.cons_append, List.nil_append, Option.bind_some, Option.bind_none, List.all_cons, List.all_nil, List.append_nil, Nat.reduceAdd, Nat.reduceSub, true_and, and_true, Bool.and_true, Bool.true_and]
    refine ⟨n, ps, xs, ys, rfl, hx, hy, ?_⟩
    rw [Bool.true_and] at h
    cases e : ledF (mnd ps) xs ys with
    | none =>
      rw [e] at h
      exact h
    | some pl =>
      rw [e] at h
      exact h
end J
/-! P5: answers: the same, unlike -/
namespace J
open PySem PySem.Spec PyProof.Rows L2
/-! ### the classes -/
def ansN : List Str := ["Same", "Unlike", "Rest", "Held", "Both", "Odds", "Shared", "Rounds"]
def ansM : List Str := "Answer" :: ansN
def insB (K : PySem.W.Frag) (A : Str) : Bool :=
  decide (PySem.W.findIn K (.ref (He.ga K A)) "__class__" = some (some (.builtin "object.__class__"))) && (decide (PySem.W.specialIn K (.builtin "object.__class__") "__get__" = some (some (.builtin "getset_descriptor.__get__"))) &&
    (decide (PySem.W.takesIn K (.builtin "object.__class__") = some true) && decide (PySem.W.mroIn K (He.ga K A) (.type "object") = some true)))
def ansF : List Str := ["places", "one", "other", "row", "whole", "first", "second", "rounds"]
def ansB (K : PySem.W.Frag) : Bool := ansN.all fun A => ((He.Fa.cls A).ok K && ansF.all fun x => (He.Fa.noat A x).ok K) && (insB K A && ansM.all fun B => decide (PySem.W.kitOne K (.ref (He.ga K A)) (.ref (He.ga K B)) = some (decide (A = B) || decide (B = "Answer"))))
/-- what is asked of the text: the answers' classes -/
structure AnsOk (K : PySem.W.Frag) : Prop where
  b : ansB K = true
theorem AnsOk.at {K : PySem.W.Frag} (t : AnsOk K) {A : Str} (hA : A ∈ ansN) : (Cls K (He.ga K A) ∧ ∀ x ∈ ansF, NoAttr K (He.ga K A) x) ∧ insB K A = true ∧ ∀ B ∈ ansM, PySem.W.kitOne K (.ref (He.ga K A)) (.ref (He.ga K B)) = some (decide (A = B) || decide (B = "Answer")) := by
  have z := List.all_eq_true.mp t.b A hA
  obtain ⟨z1, z2⟩ := Bool.and_eq_true_iff.mp z
  obtain ⟨a1, a2⟩ := Bool.and_eq_true_iff.mp z1
  obtain ⟨b1, b2⟩ := Bool.and_eq_true_iff.mp z2
  exact ⟨⟨He.cls_ok a1, fun x hx => He.noat_ok (List.all_eq_true.mp a2 x hx)⟩, b1, fun B hB => of_decide_eq_true (List.all_eq_true.mp b2 B hB)⟩
theorem AnsOk.c {K : PySem.W.Frag} (t : AnsOk K) (A : Str) (hA : A ∈ ansN) : Cls K (He.ga K A) := (t.at hA).1.1
theorem AnsOk.f {K : PySem.W.Frag} (t : AnsOk K) (A : Str) (hA : A ∈ ansN) (x : Str) (hx : x ∈ ansF) : NoAttr K (He.ga K A) x := (t.at hA).1.2 x hx
theorem AnsOk.fld {K : PySem.W.Frag} (t : AnsOk K) {A x : Str} (hA : A ∈ ansN := by decide) (hx : x ∈ ansF := by decide) : FldOk K (He.ga K A) x := ⟨t.c A hA, t.f A hA x hx⟩
theorem AnsOk.ins {K : PySem.W.Frag} (t : AnsOk K) {A : Str} (hA : A ∈ ansN) : InsOk K (He.ga K A) ∧ ∀ B ∈ ansM, PySem.W.kitOne K (.ref (He.ga K A)) (.ref (He.ga K B)) = some (decide (A = B) || decide (B = "Answer")) := by
  obtain ⟨⟨h1, _⟩, h2, h3⟩ := t.at hA
  obtain ⟨a1, z1⟩ := Bool.and_eq_true_iff.mp h2
  obtain ⟨a2, z1⟩ := Bool.and_eq_true_iff.mp z1
  obtain ⟨a3, a4⟩ := Bool.and_eq_true_iff.mp z1
  exact ⟨⟨h1, of_decide_eq_true a1, of_decide_eq_true a2, of_decide_eq_true a3, of_decide_eq_true a4⟩, h3⟩
theorem AnsOk.isi {K : PySem.W.Frag} (t : AnsOk K) (A B : Str) {gs : List (Str × D)} {P : D → Prop} (h : P (.bl (decide (A = B) || decide (B = "Answer")))) (hA : A ∈ ansN := by decide) (hB : B ∈ ansM := by decide) : gIsi K (.ref (He.ga K B)) (.obj (He.ga K A) gs) P := by
  obtain ⟨h1, h2⟩ := t.ins hA
  exact ⟨h1, _, h2 B hB, h⟩
theorem AnsOk.isio {K : PySem.W.Frag} (t : AnsOk K) (A B : Str) {gs : List (Str × D)} {P : D → Prop} (h : P (.bl (decide (A = B) || decide (B = "Answer")))) (hA : A ∈ ansN := by decide) (hB : B ∈ ansM := by decide) : gIsi K (.ref (He.ga K B)) (.oobj (He.ga K A) gs) P := by
  obtain ⟨h1, h2⟩ := t.ins hA
  exact ⟨h1, _, h2 B hB, h⟩
theorem fld_at {K : PySem.W.Frag} {C : Addr} {f : Str} {gs : List (Str × D)} {d : D} {P : D → Prop} (ok : FldOk K C f) (hl : gs.lookup f = some d) (h : P d) : gFld K f (.obj C gs) P := by
  refine ⟨ok, ?_⟩
  rw [hl]
  exact h
theorem fld_ato {K : PySem.W.Frag} {C : Addr} {f : Str} {gs : List (Str × D)} {d : D} {P : D → Prop} (ok : FldOk K C f) (hl : gs.lookup f = some d) (h : P d) : gFld K f (.oobj C gs) P := by
  refine ⟨ok, ?_⟩
  rw [hl]
  exact h
/-! ### Same -/
abbrev sameG (pl : List Int) : List (Str × D) := [("places", .olst (pl.map .int))]
abbrev sameD (K : PySem.W.Frag) (pl : List Int) : D := .obj (He.ga K "Same") [("places", rD pl)]
def G_Same_init (K : PySem.W.Frag) : GD := fun ds P => ∃ pl, ds = [rD pl] ∧ P (.mv (.oobj (He.ga K "Same") (sameG pl)))
abbrev N_Same_init : List Str := ["self", "places"]
def T_Same_init_0 (K : PySem.W.Frag) : DE := (dCB gList (dCons (dVar 1) dNil))
theorem rd_Same_init_0 {K : PySem.W.Frag} {pl : List Int} : T_Same_init_0 K (DV.no :: δof (N_Same_init.length - 1) [rD pl]) fun d => fldD d fun d => d = .olst (pl.map .int) := by
  simp only [T_Same_init_0, rD, dSeq, dIfS, dT, dTn, dTa, dTo, dOp, dVar, dC, dFz_eq, dCB, dCons, dNil, dCall, dCallB, dMeth, dMethB, dSet, dApp, dExt, dRet, dRetM, dNx, dDrop, dNeg, dAnd, dOr, dNot, dIf, dCh, dCh3, dU, dTup, dLst, dFld, dIsi, dIl, dIe, dIr1, dIr2, dIv1, dgN, dgT, putAll, dFor, dPar2, dPar3, dSetT, dLc, dYes, dSl, dNo, dSome, dRev, dNev, dSset, dCount, dIndex, dLrg1, dLrg2, dTwo, un_non, un_int, un_bl, un_str, un_lst, un_tup, un_obj, un_dct, un_scr, un_olst, un_oll, un_oobj, un_mv, un_m, un_p, pl_non, pl_int, pl_bl, pl_str, pl_lst, pl_tup, pl_obj, pl_dct, pl_scr, pl_m, pl_p, fzm_non, fzm_int, fzm_bl, fzm_lst, fzm_tup, fzm_obj, fzm_scr, fzm_olst, fzm_oll, fzm_oobj, fzm_m, frz_non, frz_int, frz_bl, frz_str, frz_lst, frz_tup, frz_obj, frz_dct, frz_scr, frz_olst, frz_oll, frz_m, fz_no, fz_tr, see_no, see_tr, asB_bl, asI_int, asgD_non, asgD_int, asgD_bl, asgD_lst, asgD_tup, asgD_obj, asgD_mv, asgD_m, it_lst, it_olst, it_scr, li_lst, li_olst, pit_lst, pit_scr, sz_lst, sz_olst, sz_oll, sz_scr, sz_tup, ad_int, ad_ll, ad_oo, ad_lo, ad_ol, mu_int, mu_l, mu_o, gI_int, gI0_int, gI2_int, ii_eqv, co_int, co_bl, co_non, co_row, co_rowO, co_nil, co_nilO, co_ps, co_p, co_p2, co_rows, ev_ll, ev_ol, ev_lo, ev_oo, ev_ln, ev_lno, ev_on, ev_ono, in_ps, in_row, gEq, gNe, gIn, gNotIn, g1, g2, gLen, gList, δof, List.getElem?_cons_zero, List.getElem?_cons_succ, List.getElem?_nil, List.set_cons_zero, List.set_cons_succ, List.map_cons, List.map_nil, List.length_cons, List.length_nil, List.replicate_succ, List.replicate_zero, List.cons_append, List.nil_append, Option.bind_some, Option.bind_none, List.all_cons, List.all_nil, List.append_nil, Nat.reduceAdd, Nat.reduceSub, true_and, and_true, Bool.and_true, Bool.true_and]
  rfl
def G_Same_shows (K : PySem.W.Frag) : GD := fun ds P => ∃ n ps pl xs ys, ds = [sameD K pl, mK K n ps, rD xs, rD ys] ∧ xs.length ≤ 1000 ∧ P (.bl (shw (mnd ps) pl xs ys))
/-! ### Same.shows -/
abbrev N_Same_shows : List Str := ["self", "minds", "row", "another", "now", "place"]
def T_Same_shows_f1 (K : PySem.W.Frag) : DS := (dSeq (dIfS (dTo (dTn (dT (dCh gLe gLt (dC (.int 0)) (dVar 5) (dOp (gI0 fun i j => .int (i - j)) (dCB gLen (dCons (dVar 4) dNil)) (dC (.int 1)))))) (dT (dMeth (He.ga K "Minds") "minding" (G_Minds_minding K) (dVar 1) (dCons (dOp gIx (dVar 4) (dVar 5)) (dCons (dOp gIx (dVar 4) (dOp gAdd (dVar 5) (dC (.int 1)))) dNil))))) (dRet (dC (.bl false))) dNx)
  (dSet 4 (dFz (dOp gAdd (dOp gAdd (dSl (dVar 4) dNo (dSome (dVar 5))) (dLst (dCons (dOp gIx (dVar 4) (dOp gAdd (dVar 5) (dC (.int 1)))) (dCons (dOp gIx (dVar 4) (dVar 5)) dNil)))) (dSl (dVar 4) (dSome (dOp gAdd (dVar 5) (dC (.int 2)))) dNo)))))
def T_Same_shows (K : PySem.W.Frag) : DS := (dSeq (dSet 4 (dFz (dCB gList (dCons (dVar 2) dNil))))
  (dSeq (dFor (dIl (dFld K "places" (dVar 0))) (dgN 5) (T_Same_shows_f1 K))
  (dRet (dOp gEq (dVar 4) (dVar 3)))))
theorem xst_out {m : Int → Int → Bool} {p : Int} {xs : List Int} (h : ¬ (0 ≤ p ∧ p < (xs.length : Int) - 1)) : xst m p xs = none := by
  unfold xst
  by_cases c : p < 0
  · rw [if_pos c]
  · rw [if_neg c]
    exact xs1_off (by omega)
theorem xst_mid {m : Int → Int → Bool} {A B : List Int} {a b : Int} : xst m (A.length : Int) (A ++ a :: b :: B) = if m a b then none else some (A ++ b :: a :: B) := by
  unfold xst
  rw [if_neg (by omega), Int.toNat_natCast]
  exact xs1_mid
theorem shw_cons {m : Int → Int → Bool} {p : Int} {pl xs ys : List Int} : shw m (p :: pl) xs ys = match xst m p xs with
    | some zs => shw m pl zs ys
    | none => false := by
  show (match (xst m p xs).bind (xchs m pl) with
    | some zs => decide (zs = ys)
    | none => false) = _
  cases xst m p xs <;> rfl
theorem shows_f {K : PySem.W.Frag} {n : Int} {ps : List (Int × Int)} {self row : D} {ys : List Int} {E : EndsD} {R : Bool → Prop} (h1 : R false → E.rt (.bl false)) (h2 : ∀ zs e5, R (decide (zs = ys)) → E.nx [.tr self, .tr (mK K n ps), .tr row, .tr (rD ys), .tr (rD zs), e5]) :
    ∀ (pl xs : List Int) (e5 : DV), xs.length ≤ 1000 → R (shw (mnd ps) pl xs ys) → forGo (dgN 5) (T_Same_shows_f1 K) E (pl.map .int) [.tr self, .tr (mK K n ps), .tr row, .tr (rD ys), .tr (rD xs), e5]
  | [], xs, e5, hl, h => h2 xs e5 h
  | p :: pl, xs, e5, hl, h => by
    refine forGo_op fun N hN => ?_
    simp only [T_Same_shows_f1, mK, rD, dSeq, dIfS, dT, dTn, dTa, dTo, dOp, dVar, dC, dFz_eq, dCB, dCons, dNil, dCall, dCallB, dMeth, dMethB, dSet, dApp, dExt, dRet, dRetM, dNx, dDrop, dNeg, dAnd, dOr, dNot, dIf, dCh, dCh3, dU, dTup, dLst, dFld, dIsi, dIl, dIe, dIr1, dIr2, dIv1, dgN, dgT, putAll, dFor, dPar2, dPar3, dSetT, dLc, dYes, dSl, dNo, dSome, dRev, dNev, dSset, dCount, dIndex, dLrg1, dLrg2, dTwo, un_non, un_int, un_bl, un_str, un_lst, un_tup, un_obj, un_dct, un_scr, un_olst, un_oll, un_oobj, un_mv, un_m, un_p, pl_non, pl_int, pl_bl, pl_str, pl_lst, pl_tup, pl_obj, pl_dct, pl_scr, pl_m, pl_p, fzm_non, fzm_int, fzm_bl, fzm_lst, fzm_tup, fzm_obj, fzm_scr, fzm_olst, fzm_oll, fzm_oobj, fzm_m, frz_non, frz_int, frz_bl, frz_str, frz_lst, frz_tup, frz_obj, frz_dct, frz_scr, frz_olst, frz_oll, frz_m, fz_no, fz_tr, see_no, see_tr, asB_bl, asI_int, asgD_non, asgD_int, asgD_bl, asgD_lst, asgD_tup, asgD_obj, asgD_mv, asgD_m, it_lst, it_olst, it_scr, li_lst, li_olst, pit_lst, pit_scr, sz_lst, sz_olst, sz_oll, sz_scr, sz_tup, ad_int, ad_ll, ad_oo, ad_lo, ad_ol, mu_int, mu_l, mu_o, gI_int, gI0_int, gI2_int, ii_eqv, co_int, co_bl, co_non, co_row, co_rowO, co_nil, co_nilO, co_ps, co_p, co_p2, co_rows, ev_ll, ev_ol, ev_lo, ev_oo, ev_ln, ev_lno, ev_on, ev_ono, in_ps, in_row, gEq, gNe, gIn, gNotIn, g1, g2, gLen, gList, δof, List.getElem?_cons_zero, List.getElem?_cons_succ, List.getElem?_nil, List.set_cons_zero, List.set_cons_succ, List.map_cons, List.map_nil, List.length_cons, List.length_nil, List.replicate_succ, List.replicate_zero, List.cons_append, List.nil_append, Option.bind_some, Option.bind_none, List.all_cons, List.all_nil, List.append_nil, Nat.reduceAdd, Nat.reduceSub, true_and, and_true, Bool.and_true, Bool.true_and, List.length_map]
    rw [shw_cons] at h
    by_cases c0 : 0 ≤ p
    · rw [decide_eq_true c0]
      simp only [dSeq, dIfS, dT, dTn, dTa, dTo, dOp, dVar, dC, dFz_eq, dCB, dCons, dNil, dCall, dCallB, dMeth, dMethB, dSet, dApp, dExt, dRet, dRetM, dNx, dDrop, dNeg, dAnd, dOr, dNot, dIf, dCh, dCh3, dU, dTup, dLst, dFld, dIsi, dIl, dIe, dIr1, dIr2, dIv1, dgN, dgT, putAll, dFor, dPar2, dPar3, dSetT, dLc, dYes, dSl, dNo, dSome, dRev, dNev, dSset, dCount, dIndex, dLrg1, dLrg2, dTwo, un_non, un_int, un_bl, un_str, un_lst, un_tup, un_obj, un_dct, un_scr, un_olst, un_oll, un_oobj, un_mv, un_m, un_p, pl_non, pl_int, pl_bl, pl_str, pl_lst, pl_tup, pl_obj, pl_dct, pl_scr, pl_m, pl_p, fzm_non, fzm_int, fzm_bl, fzm_lst, fzm_tup, fzm_obj, fzm_scr, fzm_olst, fzm_oll, fzm_oobj, fzm_m, frz_non, frz_int, frz_bl, frz_str, frz_lst, frz_tup, frz_obj, frz_dct, frz_scr, frz_olst, frz_oll, frz_m, fz_no, fz_tr, see_no, see_tr, asB_bl, asI_int, asgD_non, asgD_int, asgD_bl, asgD_lst, asgD_tup, asgD_obj, asgD_mv, asgD_m, it_lst, it_olst, it_scr, li_lst, li_olst, pit_lst, pit_scr, sz_lst, sz_olst, sz_oll, sz_scr, sz_tup, ad_int, ad_ll, ad_oo, ad_lo, ad_ol, mu_int, mu_l, mu_o, gI_int, gI0_int, gI2_int, ii_eqv, co_int, co_bl, co_non, co_row, co_rowO, co_nil, co_nilO, co_ps, co_p, co_p2, co_rows, ev_ll, ev_ol, ev_lo, ev_oo, ev_ln, ev_lno, ev_on, ev_ono, in_ps, in_row, gEq, gNe, gIn, gNotIn, g1, g2, gLen, gList, δof, List.getElem?_cons_zero, List.getElem?_cons_succ, List.getElem?_nil, List.set_cons_zero, List.set_cons_succ, List.map_cons, List.map_nil, List.length_cons, List.length_nil, List.replicate_succ, List.replicate_zero, List.cons_append, List.nil_append, Option.bind_some, Option.bind_none, List.all_cons, List.all_nil, List.append_nil, Nat.reduceAdd, Nat.reduceSub, true_and, and_true, Bool.and_true, Bool.true_and]
      by_cases c1 : p < (xs.length : Int) - 1
      · rw [decide_eq_true c1]
        simp only [dSeq, dIfS, dT, dTn, dTa, dTo, dOp, dVar, dC, dFz_eq, dCB, dCons, dNil, dCall, dCallB, dMeth, dMethB, dSet, dApp, dExt, dRet, dRetM, dNx, dDrop, dNeg, dAnd, dOr, dNot, dIf, dCh, dCh3, dU, dTup, dLst, dFld, dIsi, dIl, dIe, dIr1, dIr2, dIv1, dgN, dgT, putAll, dFor, dPar2, dPar3, dSetT, dLc, dYes, dSl, dNo, dSome, dRev, dNev, dSset, dCount, dIndex, dLrg1, dLrg2, dTwo, un_non, un_int, un_bl, un_str, un_lst, un_tup, un_obj, un_dct, un_scr, un_olst, un_oll, un_oobj, un_mv, un_m, un_p, pl_non, pl_int, pl_bl, pl_str, pl_lst, pl_tup, pl_obj, pl_dct, pl_scr, pl_m, pl_p, fzm_non, fzm_int, fzm_bl, fzm_lst, fzm_tup, fzm_obj, fzm_scr, fzm_olst, fzm_oll, fzm_oobj, fzm_m, frz_non, frz_int, frz_bl, frz_str, frz_lst, frz_tup, frz_obj, frz_dct, frz_scr, frz_olst, frz_oll, frz_m, fz_no, fz_tr, see_no, see_tr, asB_bl, asI_int, asgD_non, asgD_int, asgD_bl, asgD_lst, asgD_tup, asgD_obj, asgD_mv, asgD_m, it_lst, it_olst, it_scr, li_lst, li_olst, pit_lst, pit_scr, sz_lst, sz_olst, sz_oll, sz_scr, sz_tup, ad_int, ad_ll, ad_oo, ad_lo, ad_ol, mu_int, mu_l, mu_o, gI_int, gI0_int, gI2_int, ii_eqv, co_int, co_bl, co_non, co_row, co_rowO, co_nil, co_nilO, co_ps, co_p, co_p2, co_rows, ev_ll, ev_ol, ev_lo, ev_oo, ev_ln, ev_lno, ev_on, ev_ono, in_ps, in_row, gEq, gNe, gIn, gNotIn, g1, g2, gLen, gList, δof, List.getElem?_cons_zero, List.getElem?_cons_succ, List.getElem?_nil, List.set_cons_zero, List.set_cons_succ, List.map_cons, List.map_nil, List.length_cons, List.length_nil, List.replicate_succ, List.replicate_zero, List.cons_append, List.nil_append, Option.bind_some, Option.bind_none, List.all_cons, List.all_nil, List.append_nil, Nat.reduceAdd, Nat.reduceSub, true_and, and_true, Bool.and_true, Bool.true_and, Bool.not_true]
        obtain ⟨k, rfl⟩ := Int.eq_ofNat_of_zero_le c0
        obtain ⟨A, a, b, B, rfl, rfl⟩ := split_at (xs := xs) (p := k) (by omega)
        have q1 : ((A.length : Int) + 1) = ((A.length + 1 : Nat) : Int) := by omega
        have q2 : ((A.length : Int) + 2) = ((A.length + 2 : Nat) : Int) := by omega
        have e1 : ((A ++ a :: b :: B).map D.int)[A.length]? = some (.int a) := by rw [List.getElem?_map, at_mid]; rfl
        have e2 : ((A ++ a :: b :: B).map D.int)[A.length + 1]? = some (.int b) := by rw [List.getElem?_map, at_mid1]; rfl
        simp only [q1, q2]
        refine ⟨isA_minding, ?_⟩
        refine ix_lst ⟨_, at_nat e1, ?_⟩
        simp only [dSeq, dIfS, dT, dTn, dTa, dTo, dOp, dVar, dC, dFz_eq, dCB, dCons, dNil, dCall, dCallB, dMeth, dMethB, dSet, dApp, dExt, dRet, dRetM, dNx, dDrop, dNeg, dAnd, dOr, dNot, dIf, dCh, dCh3, dU, dTup, dLst, dFld, dIsi, dIl, dIe, dIr1, dIr2, dIv1, dgN, dgT, putAll, dFor, dPar2, dPar3, dSetT, dLc, dYes, dSl, dNo, dSome, dRev, dNev, dSset, dCount, dIndex, dLrg1, dLrg2, dTwo, un_non, un_int, un_bl, un_str, un_lst, un_tup, un_obj, un_dct, un_scr, un_olst, un_oll, un_oobj, un_mv, un_m, un_p, pl_non, pl_int, pl_bl, pl_str, pl_lst, pl_tup, pl_obj, pl_dct, pl_scr, pl_m, pl_p, fzm_non, fzm_int, fzm_bl, fzm_lst, fzm_tup, fzm_obj, fzm_scr, fzm_olst, fzm_oll, fzm_oobj, fzm_m, frz_non, frz_int, frz_bl, frz_str, frz_lst, frz_tup, frz_obj, frz_dct, frz_scr, frz_olst, frz_oll, frz_m, fz_no, fz_tr, see_no, see_tr, asB_bl, asI_int, asgD_non, asgD_int, asgD_bl, asgD_lst, asgD_tup, asgD_obj, asgD_mv, asgD_m, it_lst, it_olst, it_scr, li_lst, li_olst, pit_lst, pit_scr, sz_lst, sz_olst, sz_oll, sz_scr, sz_tup, ad_int, ad_ll, ad_oo, ad_lo, ad_ol, mu_int, mu_l, mu_o, gI_int, gI0_int, gI2_int, ii_eqv, co_int, co_bl, co_non, co_row, co_rowO, co_nil, co_nilO, co_ps, co_p, co_p2, co_rows, ev_ll, ev_ol, ev_lo, ev_oo, ev_ln, ev_lno, ev_on, ev_ono, in_ps, in_row, gEq, gNe, gIn, gNotIn, g1, g2, gLen, gList, δof, List.getElem?_cons_zero, List.getElem?_cons_succ, List.getElem?_nil, List.set_cons_zero, List.set_cons_succ, List.map_cons, List.map_nil, List.length_cons, List.length_nil, List.replicate_succ, List.replicate_zero, List.cons_append, List.nil_append, Option.bind_some, Option.bind_none, List.all_cons, List.all_nil, List.append_nil, Nat.reduceAdd, Nat.reduceSub, true_and, and_true, Bool.and_true, Bool.true_and]
        refine ix_lst ⟨_, at_nat e2, ?_⟩
        simp only [dSeq, dIfS, dT, dTn, dTa, dTo, dOp, dVar, dC, dFz_eq, dCB, dCons, dNil, dCall, dCallB, dMeth, dMethB, dSet, dApp, dExt, dRet, dRetM, dNx, dDrop, dNeg, dAnd, dOr, dNot, dIf, dCh, dCh3, dU, dTup, dLst, dFld, dIsi, dIl, dIe, dIr1, dIr2, dIv1, dgN, dgT, putAll, dFor, dPar2, dPar3, dSetT, dLc, dYes, dSl, dNo, dSome, dRev, dNev, dSset, dCount, dIndex, dLrg1, dLrg2, dTwo, un_non, un_int, un_bl, un_str, un_lst, un_tup, un_obj, un_dct, un_scr, un_olst, un_oll, un_oobj, un_mv, un_m, un_p, pl_non, pl_int, pl_bl, pl_str, pl_lst, pl_tup, pl_obj, pl_dct, pl_scr, pl_m, pl_p, fzm_non, fzm_int, fzm_bl, fzm_lst, fzm_tup, fzm_obj, fzm_scr, fzm_olst, fzm_oll, fzm_oobj, fzm_m, frz_non, frz_int, frz_bl, frz_str, frz_lst, frz_tup, frz_obj, frz_dct, frz_scr, frz_olst, frz_oll, frz_m, fz_no, fz_tr, see_no, see_tr, asB_bl, asI_int, asgD_non, asgD_int, asgD_bl, asgD_lst, asgD_tup, asgD_obj, asgD_mv, asgD_m, it_lst, it_olst, it_scr, li_lst, li_olst, pit_lst, pit_scr, sz_lst, sz_olst, sz_oll, sz_scr, sz_tup, ad_int, ad_ll, ad_oo, ad_lo, ad_ol, mu_int, mu_l, mu_o, gI_int, gI0_int, gI2_int, ii_eqv, co_int, co_bl, co_non, co_row, co_rowO, co_nil, co_nilO, co_ps, co_p, co_p2, co_rows, ev_ll, ev_ol, ev_lo, ev_oo, ev_ln, ev_lno, ev_on, ev_ono, in_ps, in_row, gEq, gNe, gIn, gNotIn, g1, g2, gLen, gList, δof, List.getElem?_cons_zero, List.getElem?_cons_succ, List.getElem?_nil, List.set_cons_zero, List.set_cons_succ, List.map_cons, List.map_nil, List.length_cons, List.length_nil, List.replicate_succ, List.replicate_zero, List.cons_append, List.nil_append, Option.bind_some, Option.bind_none, List.all_cons, List.all_nil, List.append_nil, Nat.reduceAdd, Nat.reduceSub, true_and, and_true, Bool.and_true, Bool.true_and]
        refine ⟨n, ps, a, b, rfl, ?_⟩
        rw [xst_mid] at h
        cases hm : mnd ps a b with
        | true =>
          rw [hm] at h
          exact h1 h
        | false =>
          rw [hm] at h
          simp only [dSeq, dIfS, dT, dTn, dTa, dTo, dOp, dVar, dC, dFz_eq, dCB, dCons, dNil, dCall, dCallB, dMeth, dMethB, dSet, dApp, dExt, dRet, dRetM, dNx, dDrop, dNeg, dAnd, dOr, dNot, dIf, dCh, dCh3, dU, dTup, dLst, dFld, dIsi, dIl, dIe, dIr1, dIr2, dIv1, dgN, dgT, putAll, dFor, dPar2, dPar3, dSetT, dLc, dYes, dSl, dNo, dSome, dRev, dNev, dSset, dCount, dIndex, dLrg1, dLrg2, dTwo, un_non, un_int, un_bl, un_str, un_lst, un_tup, un_obj, un_dct, un_scr, un_olst, un_oll, un_oobj, un_mv, un_m, un_p, pl_non, pl_int, pl_bl, pl_str, pl_lst, pl_tup, pl_obj, pl_dct, pl_scr, pl_m, pl_p, fzm_non, fzm_int, fzm_bl, fzm_lst, fzm_tup, fzm_obj, fzm_scr, fzm_olst, fzm_oll, fzm_oobj, fzm_m, frz_non, frz_int, frz_bl, frz_str, frz_lst, frz_tup, frz_obj, frz_dct, frz_scr, frz_olst, frz_oll, frz_m, fz_no, fz_tr, see_no, see_tr, asB_bl, asI_int, asgD_non, asgD_int, asgD_bl, asgD_lst, asgD_tup, asgD_obj, asgD_mv, asgD_m, it_lst, it_olst, it_scr, li_lst, li_olst, pit_lst, pit_scr, sz_lst, sz_olst, sz_oll, sz_scr, sz_tup, ad_int, ad_ll, ad_oo, ad_lo, ad_ol, mu_int, mu_l, mu_o, gI_int, gI0_int, gI2_int, ii_eqv, co_int, co_bl, co_non, co_row, co_rowO, co_nil, co_nilO, co_ps, co_p, co_p2, co_rows, ev_ll, ev_ol, ev_lo, ev_oo, ev_ln, ev_lno, ev_on, ev_ono, in_ps, in_row, gEq, gNe, gIn, gNotIn, g1, g2, gLen, gList, δof, List.getElem?_cons_zero, List.getElem?_cons_succ, List.getElem?_nil, List.set_cons_zero, List.set_cons_succ, List.map_cons, List.map_nil, List.length_cons, List.length_nil, List.replicate_succ, List.replicate_zero, List.cons_append, List.nil_append, Option.bind_some, Option.bind_none, List.all_cons, List.all_nil, List.append_nil, Nat.reduceAdd, Nat.reduceSub, true_and, and_true, Bool.and_true, Bool.true_and]
          rw [cut_to (by rw [List.length_map]; omega), ← List.map_take, List.take_left]
          refine ix_lst ⟨_, at_nat e2, ?_⟩
          simp only [dSeq, dIfS, dT, dTn, dTa, dTo, dOp, dVar, dC, dFz_eq, dCB, dCons, dNil, dCall, dCallB, dMeth, dMethB, dSet, dApp, dExt, dRet, dRetM, dNx, dDrop, dNeg, dAnd, dOr, dNot, dIf, dCh, dCh3, dU, dTup, dLst, dFld, dIsi, dIl, dIe, dIr1, dIr2, dIv1, dgN, dgT, putAll, dFor, dPar2, dPar3, dSetT, dLc, dYes, dSl, dNo, dSome, dRev, dNev, dSset, dCount, dIndex, dLrg1, dLrg2, dTwo, un_non, un_int, un_bl, un_str, un_lst, un_tup, un_obj, un_dct, un_scr, un_olst, un_oll, un_oobj, un_mv, un_m, un_p, pl_non, pl_int, pl_bl, pl_str, pl_lst, pl_tup, pl_obj, pl_dct, pl_scr, pl_m, pl_p, fzm_non, fzm_int, fzm_bl, fzm_lst, fzm_tup, fzm_obj, fzm_scr, fzm_olst, fzm_oll, fzm_oobj, fzm_m, frz_non, frz_int, frz_bl, frz_str, frz_lst, frz_tup, frz_obj, frz_dct, frz_scr, frz_olst, frz_oll, frz_m, fz_no, fz_tr, see_no, see_tr, asB_bl, asI_int, asgD_non, asgD_int, asgD_bl, asgD_lst, asgD_tup, asgD_obj, asgD_mv, asgD_m, it_lst, it_olst, it_scr, li_lst, li_olst, pit_lst, pit_scr, sz_lst, sz_olst, sz_oll, sz_scr, sz_tup, ad_int, ad_ll, ad_oo, ad_lo, ad_ol, mu_int, mu_l, mu_o, gI_int, gI0_int, gI2_int, ii_eqv, co_int, co_bl, co_non, co_row, co_rowO, co_nil, co_nilO, co_ps, co_p, co_p2, co_rows, ev_ll, ev_ol, ev_lo, ev_oo, ev_ln, ev_lno, ev_on, ev_ono, in_ps, in_row, gEq, gNe, gIn, gNotIn, g1, g2, gLen, gList, δof, List.getElem?_cons_zero, List.getElem?_cons_succ, List.getElem?_nil, List.set_cons_zero, List.set_cons_succ, List.map_cons, List.map_nil, List.length_cons, List.length_nil, List.replicate_succ, List.replicate_zero, List.cons_append, List.nil_append, Option.bind_some, Option.bind_none, List.all_cons, List.all_nil, List.append_nil, Nat.reduceAdd, Nat.reduceSub, true_and, and_true, Bool.and_true, Bool.true_and]
          refine ix_lst ⟨_, at_nat e1, ?_⟩
          have ll : (A ++ a :: b :: B).length = A.length + B.length + 2 := by
            rw [List.length_append, List.length_cons, List.length_cons]
            omega
          have dr : (A ++ a :: b :: B).drop (A.length + 2) = B := by
            rw [List.drop_append]
            have e : A.length + 2 - A.length = 2 := by omega
            rw [e, List.drop_of_length_le (Nat.le_add_right _ _)]
            rfl
          simp only [dSeq, dIfS, dT, dTn, dTa, dTo, dOp, dVar, dC, dFz_eq, dCB, dCons, dNil, dCall, dCallB, dMeth, dMethB, dSet, dApp, dExt, dRet, dRetM, dNx, dDrop, dNeg, dAnd, dOr, dNot, dIf, dCh, dCh3, dU, dTup, dLst, dFld, dIsi, dIl, dIe, dIr1, dIr2, dIv1, dgN, dgT, putAll, dFor, dPar2, dPar3, dSetT, dLc, dYes, dSl, dNo, dSome, dRev, dNev, dSset, dCount, dIndex, dLrg1, dLrg2, dTwo, un_non, un_int, un_bl, un_str, un_lst, un_tup, un_obj, un_dct, un_scr, un_olst, un_oll, un_oobj, un_mv, un_m, un_p, pl_non, pl_int, pl_bl, pl_str, pl_lst, pl_tup, pl_obj, pl_dct, pl_scr, pl_m, pl_p, fzm_non, fzm_int, fzm_bl, fzm_lst, fzm_tup, fzm_obj, fzm_scr, fzm_olst, fzm_oll, fzm_oobj, fzm_m, frz_non, frz_int, frz_bl, frz_str, frz_lst, frz_tup, frz_obj, frz_dct, frz_scr, frz_olst, frz_oll, frz_m, fz_no, fz_tr, see_no, see_tr, asB_bl, asI_int, asgD_non, asgD_int, asgD_bl, asgD_lst, asgD_tup, asgD_obj, asgD_mv, asgD_m, it_lst, it_olst, it_scr, li_lst, li_olst, pit_lst, pit_scr, sz_lst, sz_olst, sz_oll, sz_scr, sz_tup, ad_int, ad_ll, ad_oo, ad_lo, ad_ol, mu_int, mu_l, mu_o, gI_int, gI0_int, gI2_int, ii_eqv, co_int, co_bl, co_non, co_row, co_rowO, co_nil, co_nilO, co_ps, co_p, co_p2, co_rows, ev_ll, ev_ol, ev_lo, ev_oo, ev_ln, ev_lno, ev_on, ev_ono, in_ps, in_row, gEq, gNe, gIn, gNotIn, g1, g2, gLen, gList, δof, List.getElem?_cons_zero, List.getElem?_cons_succ, List.getElem?_nil, List.set_cons_zero, List.set_cons_succ, List.map_cons, List.map_nil, List.length_cons, List.length_nil, List.replicate_succ, List.replicate_zero, List.cons_append, List.nil_append, Option.bind_some, Option.bind_none, List.all_cons, List.all_nil, List.append_nil, Nat.reduceAdd, Nat.reduceSub, true_and, and_true, Bool.and_true, Bool.true_and]
          refine ⟨by decide, by rw [List.length_map]; omega, ?_⟩
          rw [cut_from (by rw [List.length_map]; omega), ← List.map_drop, dr]
          refine ⟨?_, ?_⟩
          · rw [List.length_append, List.length_map, List.length_map, List.length_cons, List.length_cons, List.length_nil]
            omega
          · rw [hN]
            have z := shows_f h1 h2 pl (A ++ b :: a :: B) (.tr (.int (A.length : Int))) (by rw [List.length_append, List.length_cons, List.length_cons]; omega) h
            have e3 : (A ++ b :: a :: B).map D.int = A.map D.int ++ [D.int b, D.int a] ++ B.map D.int := by
              rw [List.map_append, List.append_assoc]
              rfl
            show forGo _ _ _ _ [_, _, _, _, .tr (.lst (A.map D.int ++ [D.int b, D.int a] ++ B.map D.int)), _]
            rw [← e3]
            exact z
      · rw [xst_out fun z => c1 z.2] at h
        rw [decide_eq_false c1]
        exact h1 h
    · rw [xst_out fun z => c0 z.1] at h
      rw [decide_eq_false c0]
      exact h1 h
theorem rd_Same_shows {K : PySem.W.Frag} (t : AnsOk K) : ∀ ds Q, G_Same_shows K ds Q → T_Same_shows K { nx := fun _ => Q .non, rt := Q } (δof N_Same_shows.length ds) := by
  rintro _ Q ⟨n, ps, pl, xs, ys, rfl, hl, h⟩
  simp only [T_Same_shows, mK, rD, dSeq, dIfS, dT, dTn, dTa, dTo, dOp, dVar, dC, dFz_eq, dCB, dCons, dNil, dCall, dCallB, dMeth, dMethB, dSet, dApp, dExt, dRet, dRetM, dNx, dDrop, dNeg, dAnd, dOr, dNot, dIf, dCh, dCh3, dU, dTup, dLst, dFld, dIsi, dIl, dIe, dIr1, dIr2, dIv1, dgN, dgT, putAll, dFor, dPar2, dPar3, dSetT, dLc, dYes, dSl, dNo, dSome, dRev, dNev, dSset, dCount, dIndex, dLrg1, dLrg2, dTwo, un_non, un_int, un_bl, un_str, un_lst, un_tup, un_obj, un_dct, un_scr, un_olst, un_oll, un_oobj, un_mv, un_m, un_p, pl_non, pl_int, pl_bl, pl_str, pl_lst, pl_tup, pl_obj, pl_dct, pl_scr, pl_m, pl_p, fzm_non, fzm_int, fzm_bl, fzm_lst, fzm_tup, fzm_obj, fzm_scr, fzm_olst, fzm_oll, fzm_oobj, fzm_m, frz_non, frz_int, frz_bl, frz_str, frz_lst, frz_tup, frz_obj, frz_dct, frz_scr, frz_olst, frz_oll, frz_m, fz_no, fz_tr, see_no, see_tr, asB_bl, asI_int, asgD_non, asgD_int, asgD_bl, asgD_lst, asgD_tup, asgD_obj, asgD_mv, asgD_m, it_lst, it_olst, it_scr, li_lst, li_olst, pit_lst, pit_scr, sz_lst, sz_olst, sz_oll, sz_scr, sz_tup, ad_int, ad_ll, ad_oo, ad_lo, ad_ol, mu_int, mu_l, mu_o, gI_int, gI0_int, gI2_int, ii_eqv, co_int, co_bl, co_non, co_row, co_rowO, co_nil, co_nilO, co_ps, co_p, co_p2, co_rows, ev_ll, ev_ol, ev_lo, ev_oo, ev_ln, ev_lno, ev_on, ev_ono, in_ps, in_row, gEq, gNe, gIn, gNotIn, g1, g2, gLen, gList, δof, List.getElem?_cons_zero, List.getElem?_cons_succ, List.getElem?_nil, List.set_cons_zero, List.set_cons_succ, List.map_cons, List.map_nil, List.length_cons, List.length_nil, List.replicate_succ, List.replicate_zero, List.cons_append, List.nil_append, Option.bind_some, Option.bind_none, List.all_cons, List.all_nil, List.append_nil, Nat.reduceAdd, Nat.reduceSub, true_and, and_true, Bool.and_true, Bool.true_and]
  refine fld_at (t.fld (A := "Same") (x := "places")) rfl ?_
  simp only [dSeq, dIfS, dT, dTn, dTa, dTo, dOp, dVar, dC, dFz_eq, dCB, dCons, dNil, dCall, dCallB, dMeth, dMethB, dSet, dApp, dExt, dRet, dRetM, dNx, dDrop, dNeg, dAnd, dOr, dNot, dIf, dCh, dCh3, dU, dTup, dLst, dFld, dIsi, dIl, dIe, dIr1, dIr2, dIv1, dgN, dgT, putAll, dFor, dPar2, dPar3, dSetT, dLc, dYes, dSl, dNo, dSome, dRev, dNev, dSset, dCount, dIndex, dLrg1, dLrg2, dTwo, un_non, un_int, un_bl, un_str, un_lst, un_tup, un_obj, un_dct, un_scr, un_olst, un_oll, un_oobj, un_mv, un_m, un_p, pl_non, pl_int, pl_bl, pl_str, pl_lst, pl_tup, pl_obj, pl_dct, pl_scr, pl_m, pl_p, fzm_non, fzm_int, fzm_bl, fzm_lst, fzm_tup, fzm_obj, fzm_scr, fzm_olst, fzm_oll, fzm_oobj, fzm_m, frz_non, frz_int, frz_bl, frz_str, frz_lst, frz_tup, frz_obj, frz_dct, frz_scr, frz_olst, frz_oll, frz_m, fz_no, fz_tr, see_no, see_tr, asB_bl, asI_int, asgD_non, asgD_int, asgD_bl, asgD_lst, asgD_tup, asgD_obj, asgD_mv, asgD_m, it_lst, it_olst, it_scr, li_lst, li_olst, pit_lst, pit_scr, sz_lst, sz_olst, sz_oll, sz_scr, sz_tup, ad_int, ad_ll, ad_oo, ad_lo, ad_ol, mu_int, mu_l, mu_o, gI_int, gI0_int, gI2_int, ii_eqv, co_int, co_bl, co_non, co_row, co_rowO, co_nil, co_nilO, co_ps, co_p, co_p2, co_rows, ev_ll, ev_ol, ev_lo, ev_oo, ev_ln, ev_lno, ev_on, ev_ono, in_ps, in_row, gEq, gNe, gIn, gNotIn, g1, g2, gLen, gList, δof, List.getElem?_cons_zero, List.getElem?_cons_succ, List.getElem?_nil, List.set_cons_zero, List.set_cons_succ, List.map_cons, List.map_nil, List.length_cons, List.length_nil, List.replicate_succ, List.replicate_zero, List.cons_append, List.nil_append, Option.bind_some, Option.bind_none, List.all_cons, List.all_nil, List.append_nil, Nat.reduceAdd, Nat.reduceSub, true_and, and_true, Bool.and_true, Bool.true_and]
  refine shows_f (K := K) (n := n) (ps := ps) (R := fun b => Q (.bl b)) (fun z => z) (fun zs e5 z => ?_) pl xs _ hl h
  simp only [mK, rD, dSeq, dIfS, dT, dTn, dTa, dTo, dOp, dVar, dC, dFz_eq, dCB, dCons, dNil, dCall, dCallB, dMeth, dMethB, dSet, dApp, dExt, dRet, dRetM, dNx, dDrop, dNeg, dAnd, dOr, dNot, dIf, dCh, dCh3, dU, dTup, dLst, dFld, dIsi, dIl, dIe, dIr1, dIr2, dIv1, dgN, dgT, putAll, dFor, dPar2, dPar3, dSetT, dLc, dYes, dSl, dNo, dSome, dRev, dNev, dSset, dCount, dIndex, dLrg1, dLrg2, dTwo, un_non, un_int, un_bl, un_str, un_lst, un_tup, un_obj, un_dct, un_scr, un_olst, un_oll, un_oobj, un_mv, un_m, un_p, pl_non, pl_int, pl_bl, pl_str, pl_lst, pl_tup, pl_obj, pl_dct, pl_scr, pl_m, pl_p, fzm_non, fzm_int, fzm_bl, fzm_lst, fzm_tup, fzm_obj, fzm_scr, fzm_olst, fzm_oll, fzm_oobj, fzm_m, frz_non, frz_int, frz_bl, frz_str, frz_lst, frz_tup, frz_obj, frz_dct, frz_scr, frz_olst, frz_oll, frz_m, fz_no, fz_tr, see_no, see_tr, asB_bl, asI_int, asgD_non, asgD_int, asgD_bl, asgD_lst, asgD_tup, asgD_obj, asgD_mv, asgD_m, it_lst, it_olst, it_scr, li_lst, li_olst, pit_lst, pit_scr, sz_lst, sz_olst, sz_oll, sz_scr, sz_tup, ad_int, ad_ll, ad_oo, ad_lo, ad_ol, mu_int, mu_l, mu_o, gI_int, gI0_int, gI2_int, ii_eqv, co_int, co_bl, co_non, co_row, co_rowO, co_nil, co_nilO, co_ps, co_p, co_p2, co_rows, ev_ll, ev_ol, ev_lo, ev_oo, ev_ln, ev_lno, ev_on, ev_ono, in_ps, in_row, gEq, gNe, gIn, gNotIn, g1, g2, gLen, gList, δof, List.getElem?_cons_zero, List.getElem?_cons_succ, List.getElem?_nil, List.set_cons_zero, List.set_cons_succ, List.map_cons, List.map_nil, List.length_cons, List.length_nil, List.replicate_succ, List.replicate_zero, List.cons_append, List.nil_append, Option.bind_some, Option.bind_none, List.all_cons, List.all_nil, List.append_nil, Nat.reduceAdd, Nat.reduceSub, true_and, and_true, Bool.and_true, Bool.true_and]
  exact z
/-! ### Unlike -/
def okc (n : Int) (m : Int → Int → Bool) (a b : Int) : Bool := kB n a && kB n b && decide (a ≤ b) && m a b
def G_parts (K : PySem.W.Frag) : GD := fun ds P => ∃ n ps a b xs ys, ds = [mK K n ps, .int a, .int b, rD xs, rD ys] ∧ xs.length ≤ 1000 ∧ ys.length ≤ 1000 ∧ P (if okc n (mnd ps) a b then .tup [rD (prt a b xs), rD (prt a b ys)] else .non)
/-! ### parts -/
abbrev N_parts : List Str := ["minds", "one", "other", "row", "another"]
def T_parts (K : PySem.W.Frag) : DS := (dSeq (dIfS (dTo (dTn (dT (dCall (G_are_kinds K) (dCons (dVar 0) (dCons (dFz (dLst (dCons (dVar 1) (dCons (dVar 2) dNil)))) dNil))))) (dTo (dT (dOp gGt (dVar 1) (dVar 2))) (dTn (dT (dMeth (He.ga K "Minds") "minding" (G_Minds_minding K) (dVar 0) (dCons (dVar 1) (dCons (dVar 2) dNil))))))) (dRet (dC .non)) dNx)
  (dRet (dTup (dCons (dFz (dCall (G_part_of K) (dCons (dVar 3) (dCons (dVar 1) (dCons (dVar 2) dNil))))) (dCons (dFz (dCall (G_part_of K) (dCons (dVar 4) (dCons (dVar 1) (dCons (dVar 2) dNil))))) dNil)))))
theorem rd_parts {K : PySem.W.Frag} : ∀ ds Q, G_parts K ds Q → T_parts K { nx := fun _ => Q .non, rt := Q } (δof N_parts.length ds) := by
  rintro _ Q ⟨n, ps, a, b, xs, ys, rfl, hx, hy, h⟩
  simp only [T_parts, mK, rD, dSeq, dIfS, dT, dTn, dTa, dTo, dOp, dVar, dC, dFz_eq, dCB, dCons, dNil, dCall, dCallB, dMeth, dMethB, dSet, dApp, dExt, dRet, dRetM, dNx, dDrop, dNeg, dAnd, dOr, dNot, dIf, dCh, dCh3, dU, dTup, dLst, dFld, dIsi, dIl, dIe, dIr1, dIr2, dIv1, dgN, dgT, putAll, dFor, dPar2, dPar3, dSetT, dLc, dYes, dSl, dNo, dSome, dRev, dNev, dSset, dCount, dIndex, dLrg1, dLrg2, dTwo, un_non, un_int, un_bl, un_str, un_lst, un_tup, un_obj, un_dct, un_scr, un_olst, un_oll, un_oobj, un_mv, un_m, un_p, pl_non, pl_int, pl_bl, pl_str, pl_lst, pl_tup, pl_obj, pl_dct, pl_scr, pl_m, pl_p, fzm_non, fzm_int, fzm_bl, fzm_lst, fzm_tup, fzm_obj, fzm_scr, fzm_olst, fzm_oll, fzm_oobj, fzm_m, frz_non, frz_int, frz_bl, frz_str, frz_lst, frz_tup, frz_obj, frz_dct, frz_scr, frz_olst, frz_oll, frz_m, fz_no, fz_tr, see_no, see_tr, asB_bl, asI_int, asgD_non, asgD_int, asgD_bl, asgD_lst, asgD_tup, asgD_obj, asgD_mv, asgD_m, it_lst, it_olst, it_scr, li_lst, li_olst, pit_lst, pit_scr, sz_lst, sz_olst, sz_oll, sz_scr, sz_tup, ad_int, ad_ll, ad_oo, ad_lo, ad_ol, mu_int, mu_l, mu_o, gI_int, gI0_int, gI2_int, ii_eqv, co_int, co_bl, co_non, co_row, co_rowO, co_nil, co_nilO, co_ps, co_p, co_p2, co_rows, ev_ll, ev_ol, ev_lo, ev_oo, ev_ln, ev_lno, ev_on, ev_ono, in_ps, in_row, gEq, gNe, gIn, gNotIn, g1, g2, gLen, gList, δof, List.getElem?_cons_zero, List.getElem?_cons_succ, List.getElem?_nil, List.set_cons_zero, List.set_cons_succ, List.map_cons, List.map_nil, List.length_cons, List.length_nil, List.replicate_succ, List.replicate_zero, List.cons_append, List.nil_append, Option.bind_some, Option.bind_none, List.all_cons, List.all_nil, List.append_nil, Nat.reduceAdd, Nat.reduceSub, true_and, and_true, Bool.and_true, Bool.true_and]
  refine ⟨by decide, n, ps, [a, b], rfl, Nat.le_of_ble_eq_true rfl, ?_⟩
  unfold okc at h
  have e1 : ([a, b] : List Int).all (kB n) = (kB n a && kB n b) := by simp
  rw [e1]
  cases hk : (kB n a && kB n b) with
  | false =>
    rw [hk] at h
    exact h
  | true =>
    rw [hk] at h
    simp only [dSeq, dIfS, dT, dTn, dTa, dTo, dOp, dVar, dC, dFz_eq, dCB, dCons, dNil, dCall, dCallB, dMeth, dMethB, dSet, dApp, dExt, dRet, dRetM, dNx, dDrop, dNeg, dAnd, dOr, dNot, dIf, dCh, dCh3, dU, dTup, dLst, dFld, dIsi, dIl, dIe, dIr1, dIr2, dIv1, dgN, dgT, putAll, dFor, dPar2, dPar3, dSetT, dLc, dYes, dSl, dNo, dSome, dRev, dNev, dSset, dCount, dIndex, dLrg1, dLrg2, dTwo, un_non, un_int, un_bl, un_str, un_lst, un_tup, un_obj, un_dct, un_scr, un_olst, un_oll, un_oobj, un_mv, un_m, un_p, pl_non, pl_int, pl_bl, pl_str, pl_lst, pl_tup, pl_obj, pl_dct, pl_scr, pl_m, pl_p, fzm_non, fzm_int, fzm_bl, fzm_lst, fzm_tup, fzm_obj, fzm_scr, fzm_olst, fzm_oll, fzm_oobj, fzm_m, frz_non, frz_int, frz_bl, frz_str, frz_lst, frz_tup, frz_obj, frz_dct, frz_scr, frz_olst, frz_oll, frz_m, fz_no, fz_tr, see_no, see_tr, asB_bl, asI_int, asgD_non, asgD_int, asgD_bl, asgD_lst, asgD_tup, asgD_obj, asgD_mv, asgD_m, it_lst, it_olst, it_scr, li_lst, li_olst, pit_lst, pit_scr, sz_lst, sz_olst, sz_oll, sz_scr, sz_tup, ad_int, ad_ll, ad_oo, ad_lo, ad_ol, mu_int, mu_l, mu_o, gI_int, gI0_int, gI2_int, ii_eqv, co_int, co_bl, co_non, co_row, co_rowO, co_nil, co_nilO, co_ps, co_p, co_p2, co_rows, ev_ll, ev_ol, ev_lo, ev_oo, ev_ln, ev_lno, ev_on, ev_ono, in_ps, in_row, gEq, gNe, gIn, gNotIn, g1, g2, gLen, gList, δof, List.getElem?_cons_zero, List.getElem?_cons_succ, List.getElem?_nil, List.set_cons_zero, List.set_cons_succ, List.map_cons, List.map_nil, List.length_cons, List.length_nil, List.replicate_succ, List.replicate_zero, List.cons_append, List.nil_append, Option.bind_some, Option.bind_none, List.all_cons, List.all_nil, List.append_nil, Nat.reduceAdd, Nat.reduceSub, true_and, and_true, Bool.and_true, Bool.true_and, Bool.not_true]
    by_cases c : a ≤ b
    · rw [decide_eq_true c] at h
      rw [decide_eq_false (by omega)]
      simp only [dSeq, dIfS, dT, dTn, dTa, dTo, dOp, dVar, dC, dFz_eq, dCB, dCons, dNil, dCall, dCallB, dMeth, dMethB, dSet, dApp, dExt, dRet, dRetM, dNx, dDrop, dNeg, dAnd, dOr, dNot, dIf, dCh, dCh3, dU, dTup, dLst, dFld, dIsi, dIl, dIe, dIr1, dIr2, dIv1, dgN, dgT, putAll, dFor, dPar2, dPar3, dSetT, dLc, dYes, dSl, dNo, dSome, dRev, dNev, dSset, dCount, dIndex, dLrg1, dLrg2, dTwo, un_non, un_int, un_bl, un_str, un_lst, un_tup, un_obj, un_dct, un_scr, un_olst, un_oll, un_oobj, un_mv, un_m, un_p, pl_non, pl_int, pl_bl, pl_str, pl_lst, pl_tup, pl_obj, pl_dct, pl_scr, pl_m, pl_p, fzm_non, fzm_int, fzm_bl, fzm_lst, fzm_tup, fzm_obj, fzm_scr, fzm_olst, fzm_oll, fzm_oobj, fzm_m, frz_non, frz_int, frz_bl, frz_str, frz_lst, frz_tup, frz_obj, frz_dct, frz_scr, frz_olst, frz_oll, frz_m, fz_no, fz_tr, see_no, see_tr, asB_bl, asI_int, asgD_non, asgD_int, asgD_bl, asgD_lst, asgD_tup, asgD_obj, asgD_mv, asgD_m, it_lst, it_olst, it_scr, li_lst, li_olst, pit_lst, pit_scr, sz_lst, sz_olst, sz_oll, sz_scr, sz_tup, ad_int, ad_ll, ad_oo, ad_lo, ad_ol, mu_int, mu_l, mu_o, gI_int, gI0_int, gI2_int, ii_eqv, co_int, co_bl, co_non, co_row, co_rowO, co_nil, co_nilO, co_ps, co_p, co_p2, co_rows, ev_ll, ev_ol, ev_lo, ev_oo, ev_ln, ev_lno, ev_on, ev_ono, in_ps, in_row, gEq, gNe, gIn, gNotIn, g1, g2, gLen, gList, δof, List.getElem?_cons_zero, List.getElem?_cons_succ, List.getElem?_nil, List.set_cons_zero, List.set_cons_succ, List.map_cons, List.map_nil, List.length_cons, List.length_nil, List.replicate_succ, List.replicate_zero, List.cons_append, List.nil_append, Option.bind_some, Option.bind_none, List.all_cons, List.all_nil, List.append_nil, Nat.reduceAdd, Nat.reduceSub, true_and, and_true, Bool.and_true, Bool.true_and]
      refine ⟨isA_minding, n, ps, a, b, rfl, ?_⟩
      cases hm : mnd ps a b with
      | false =>
        rw [hm] at h
        exact h
      | true =>
        rw [hm] at h
        simp only [dSeq, dIfS, dT, dTn, dTa, dTo, dOp, dVar, dC, dFz_eq, dCB, dCons, dNil, dCall, dCallB, dMeth, dMethB, dSet, dApp, dExt, dRet, dRetM, dNx, dDrop, dNeg, dAnd, dOr, dNot, dIf, dCh, dCh3, dU, dTup, dLst, dFld, dIsi, dIl, dIe, dIr1, dIr2, dIv1, dgN, dgT, putAll, dFor, dPar2, dPar3, dSetT, dLc, dYes, dSl, dNo, dSome, dRev, dNev, dSset, dCount, dIndex, dLrg1, dLrg2, dTwo, un_non, un_int, un_bl, un_str, un_lst, un_tup, un_obj, un_dct, un_scr, un_olst, un_oll, un_oobj, un_mv, un_m, un_p, pl_non, pl_int, pl_bl, pl_str, pl_lst, pl_tup, pl_obj, pl_dct, pl_scr, pl_m, pl_p, fzm_non, fzm_int, fzm_bl, fzm_lst, fzm_tup, fzm_obj, fzm_scr, fzm_olst, fzm_oll, fzm_oobj, fzm_m, frz_non, frz_int, frz_bl, frz_str, frz_lst, frz_tup, frz_obj, frz_dct, frz_scr, frz_olst, frz_oll, frz_m, fz_no, fz_tr, see_no, see_tr, asB_bl, asI_int, asgD_non, asgD_int, asgD_bl, asgD_lst, asgD_tup, asgD_obj, asgD_mv, asgD_m, it_lst, it_olst, it_scr, li_lst, li_olst, pit_lst, pit_scr, sz_lst, sz_olst, sz_oll, sz_scr, sz_tup, ad_int, ad_ll, ad_oo, ad_lo, ad_ol, mu_int, mu_l, mu_o, gI_int, gI0_int, gI2_int, ii_eqv, co_int, co_bl, co_non, co_row, co_rowO, co_nil, co_nilO, co_ps, co_p, co_p2, co_rows, ev_ll, ev_ol, ev_lo, ev_oo, ev_ln, ev_lno, ev_on, ev_ono, in_ps, in_row, gEq, gNe, gIn, gNotIn, g1, g2, gLen, gList, δof, List.getElem?_cons_zero, List.getElem?_cons_succ, List.getElem?_nil, List.set_cons_zero, List.set_cons_succ, List.map_cons, List.map_nil, List.length_cons, List.length_nil, List.replicate_succ, List.replicate_zero, List.cons_append, List.nil_append, Option.bind_some, Option.bind_none, List.all_cons, List.all_nil, List.append_nil, Nat.reduceAdd, Nat.reduceSub, true_and, and_true, Bool.and_true, Bool.true_and, Bool.not_true]
        refine ⟨xs, a, b, rfl, hx, ?_⟩
        simp only [dSeq, dIfS, dT, dTn, dTa, dTo, dOp, dVar, dC, dFz_eq, dCB, dCons, dNil, dCall, dCallB, dMeth, dMethB, dSet, dApp, dExt, dRet, dRetM, dNx, dDrop, dNeg, dAnd, dOr, dNot, dIf, dCh, dCh3, dU, dTup, dLst, dFld, dIsi, dIl, dIe, dIr1, dIr2, dIv1, dgN, dgT, putAll, dFor, dPar2, dPar3, dSetT, dLc, dYes, dSl, dNo, dSome, dRev, dNev, dSset, dCount, dIndex, dLrg1, dLrg2, dTwo, un_non, un_int, un_bl, un_str, un_lst, un_tup, un_obj, un_dct, un_scr, un_olst, un_oll, un_oobj, un_mv, un_m, un_p, pl_non, pl_int, pl_bl, pl_str, pl_lst, pl_tup, pl_obj, pl_dct, pl_scr, pl_m, pl_p, fzm_non, fzm_int, fzm_bl, fzm_lst, fzm_tup, fzm_obj, fzm_scr, fzm_olst, fzm_oll, fzm_oobj, fzm_m, frz_non, frz_int, frz_bl, frz_str, frz_lst, frz_tup, frz_obj, frz_dct, frz_scr, frz_olst, frz_oll, frz_m, fz_no, fz_tr, see_no, see_tr, asB_bl, asI_int, asgD_non, asgD_int, asgD_bl, asgD_lst, asgD_tup, asgD_obj, asgD_mv, asgD_m, it_lst, it_olst, it_scr, li_lst, li_olst, pit_lst, pit_scr, sz_lst, sz_olst, sz_oll, sz_scr, sz_tup, ad_int, ad_ll, ad_oo, ad_lo, ad_ol, mu_int, mu_l, mu_o, gI_int, gI0_int, gI2_int, ii_eqv, co_int, co_bl, co_non, co_row, co_rowO, co_nil, co_nilO, co_ps, co_p, co_p2, co_rows, ev_ll, ev_ol, ev_lo, ev_oo, ev_ln, ev_lno, ev_on, ev_ono, in_ps, in_row, gEq, gNe, gIn, gNotIn, g1, g2, gLen, gList, δof, List.getElem?_cons_zero, List.getElem?_cons_succ, List.getElem?_nil, List.set_cons_zero, List.set_cons_succ, List.map_cons, List.map_nil, List.length_cons, List.length_nil, List.replicate_succ, List.replicate_zero, List.cons_append, List.nil_append, Option.bind_some, Option.bind_none, List.all_cons, List.all_nil, List.append_nil, Nat.reduceAdd, Nat.reduceSub, true_and, and_true, Bool.and_true, Bool.true_and]
        refine ⟨ys, a, b, rfl, hy, ?_⟩
        simp only [dSeq, dIfS, dT, dTn, dTa, dTo, dOp, dVar, dC, dFz_eq, dCB, dCons, dNil, dCall, dCallB, dMeth, dMethB, dSet, dApp, dExt, dRet, dRetM, dNx, dDrop, dNeg, dAnd, dOr, dNot, dIf, dCh, dCh3, dU, dTup, dLst, dFld, dIsi, dIl, dIe, dIr1, dIr2, dIv1, dgN, dgT, putAll, dFor, dPar2, dPar3, dSetT, dLc, dYes, dSl, dNo, dSome, dRev, dNev, dSset, dCount, dIndex, dLrg1, dLrg2, dTwo, un_non, un_int, un_bl, un_str, un_lst, un_tup, un_obj, un_dct, un_scr, un_olst, un_oll, un_oobj, un_mv, un_m, un_p, pl_non, pl_int, pl_bl, pl_str, pl_lst, pl_tup, pl_obj, pl_dct, pl_scr, pl_m, pl_p, fzm_non, fzm_int, fzm_bl, fzm_lst, fzm_tup, fzm_obj, fzm_scr, fzm_olst, fzm_oll, fzm_oobj, fzm_m, frz_non, frz_int, frz_bl, frz_str, frz_lst, frz_tup, frz_obj, frz_dct, frz_scr, frz_olst, frz_oll, frz_m, fz_no, fz_tr, see_no, see_tr, asB_bl, asI_int, asgD_non, asgD_int, asgD_bl, asgD_lst, asgD_tup, asgD_obj, asgD_mv, asgD_m, it_lst, it_olst, it_scr, li_lst, li_olst, pit_lst, pit_scr, sz_lst, sz_olst, sz_oll, sz_scr, sz_tup, ad_int, ad_ll, ad_oo, ad_lo, ad_ol, mu_int, mu_l, mu_o, gI_int, gI0_int, gI2_int, ii_eqv, co_int, co_bl, co_non, co_row, co_rowO, co_nil, co_nilO, co_ps, co_p, co_p2, co_rows, ev_ll, ev_ol, ev_lo, ev_oo, ev_ln, ev_lno, ev_on, ev_ono, in_ps, in_row, gEq, gNe, gIn, gNotIn, g1, g2, gLen, gList, δof, List.getElem?_cons_zero, List.getElem?_cons_succ, List.getElem?_nil, List.set_cons_zero, List.set_cons_succ, List.map_cons, List.map_nil, List.length_cons, List.length_nil, List.replicate_succ, List.replicate_zero, List.cons_append, List.nil_append, Option.bind_some, Option.bind_none, List.all_cons, List.all_nil, List.append_nil, Nat.reduceAdd, Nat.reduceSub, true_and, and_true, Bool.and_true, Bool.true_and]
        exact ⟨by decide, h⟩
    · rw [decide_eq_false c] at h
      rw [decide_eq_true (by omega)]
      exact h
abbrev twoG (a b : Int) : List (Str × D) := [("one", .int a), ("other", .int b)]
abbrev unD (K : PySem.W.Frag) (a b : Int) : D := .obj (He.ga K "Unlike") (twoG a b)
def G_Unlike_init (K : PySem.W.Frag) : GD := fun ds P => ∃ a b, ds = [.int a, .int b] ∧ P (.mv (.oobj (He.ga K "Unlike") (twoG a b)))
abbrev N_Unlike_init : List Str := ["self", "one", "other"]
def T_Unlike_init_0 (K : PySem.W.Frag) : DE := (dVar 1)
theorem rd_Unlike_init_0 {K : PySem.W.Frag} {a b : Int} : T_Unlike_init_0 K (DV.no :: δof (N_Unlike_init.length - 1) [.int a, .int b]) fun d => fldD d fun d => d = .int a := by
  simp only [T_Unlike_init_0, dSeq, dIfS, dT, dTn, dTa, dTo, dOp, dVar, dC, dFz_eq, dCB, dCons, dNil, dCall, dCallB, dMeth, dMethB, dSet, dApp, dExt, dRet, dRetM, dNx, dDrop, dNeg, dAnd, dOr, dNot, dIf, dCh, dCh3, dU, dTup, dLst, dFld, dIsi, dIl, dIe, dIr1, dIr2, dIv1, dgN, dgT, putAll, dFor, dPar2, dPar3, dSetT, dLc, dYes, dSl, dNo, dSome, dRev, dNev, dSset, dCount, dIndex, dLrg1, dLrg2, dTwo, un_non, un_int, un_bl, un_str, un_lst, un_tup, un_obj, un_dct, un_scr, un_olst, un_oll, un_oobj, un_mv, un_m, un_p, pl_non, pl_int, pl_bl, pl_str, pl_lst, pl_tup, pl_obj, pl_dct, pl_scr, pl_m, pl_p, fzm_non, fzm_int, fzm_bl, fzm_lst, fzm_tup, fzm_obj, fzm_scr, fzm_olst, fzm_oll, fzm_oobj, fzm_m, frz_non, frz_int, frz_bl, frz_str, frz_lst, frz_tup, frz_obj, frz_dct, frz_scr, frz_olst, frz_oll, frz_m, fz_no, fz_tr, see_no, see_tr, asB_bl, asI_int, asgD_non, asgD_int, asgD_bl, asgD_lst, asgD_tup, asgD_obj, asgD_mv, asgD_m, it_lst, it_olst, it_scr, li_lst, li_olst, pit_lst, pit_scr, sz_lst, sz_olst, sz_oll, sz_scr, sz_tup, ad_int, ad_ll, ad_oo, ad_lo, ad_ol, mu_int, mu_l, mu_o, gI_int, gI0_int, gI2_int, ii_eqv, co_int, co_bl, co_non, co_row, co_rowO, co_nil, co_nilO, co_ps, co_p, co_p2, co_rows, ev_ll, ev_ol, ev_lo, ev_oo, ev_ln, ev_lno, ev_on, ev_ono, in_ps, in_row, gEq, gNe, gIn, gNotIn, g1, g2, gLen, gList, δof, List.getElem?_cons_zero, List.getElem?_cons_succ, List.getElem?_nil, List.set_cons_zero, List.set_cons_succ, List.map_cons, List.map_nil, List.length_cons, List.length_nil, List.replicate_succ, List.replicate_zero, List.cons_append, List.nil_append, Option.bind_some, Option.bind_none, List.all_cons, List.all_nil, List.append_nil, Nat.reduceAdd, Nat.reduceSub, true_and, and_true, Bool.and_true, Bool.true_and]
  exact ⟨rfl, rfl⟩
def T_Unlike_init_1 (K : PySem.W.Frag) : DE := (dVar 2)
theorem rd_Unlike_init_1 {K : PySem.W.Frag} {a b : Int} : T_Unlike_init_1 K (DV.no :: δof (N_Unlike_init.length - 1) [.int a, .int b]) fun d => fldD d fun d => d = .int b := by
  simp only [T_Unlike_init_1, dSeq, dIfS, dT, dTn, dTa, dTo, dOp, dVar, dC, dFz_eq, dCB, dCons, dNil, dCall, dCallB, dMeth, dMethB, dSet, dApp, dExt, dRet, dRetM, dNx, dDrop, dNeg, dAnd, dOr, dNot, dIf, dCh, dCh3, dU, dTup, dLst, dFld, dIsi, dIl, dIe, dIr1, dIr2, dIv1, dgN, dgT, putAll, dFor, dPar2, dPar3, dSetT, dLc, dYes, dSl, dNo, dSome, dRev, dNev, dSset, dCount, dIndex, dLrg1, dLrg2, dTwo, un_non, un_int, un_bl, un_str, un_lst, un_tup, un_obj, un_dct, un_scr, un_olst, un_oll, un_oobj, un_mv, un_m, un_p, pl_non, pl_int, pl_bl, pl_str, pl_lst, pl_tup, pl_obj, pl_dct, pl_scr, pl_m, pl_p, fzm_non, fzm_int, fzm_bl, fzm_lst, fzm_tup, fzm_obj, fzm_scr, fzm_olst, fzm_oll, fzm_oobj, fzm_m, frz_non, frz_int, frz_bl, frz_str, frz_lst, frz_tup, frz_obj, frz_dct, frz_scr, frz_olst, frz_oll, frz_m, fz_no, fz_tr, see_no, see_tr, asB_bl, asI_int, asgD_non, asgD_int, asgD_bl, asgD_lst, asgD_tup, asgD_obj, asgD_mv, asgD_m, it_lst, it_olst, it_scr, li_lst, li_olst, pit_lst, pit_scr, sz_lst, sz_olst, sz_oll, sz_scr, sz_tup, ad_int, ad_ll, ad_oo, ad_lo, ad_ol, mu_int, mu_l, mu_o, gI_int, gI0_int, gI2_int, ii_eqv, co_int, co_bl, co_non, co_row, co_rowO, co_nil, co_nilO, co_ps, co_p, co_p2, co_rows, ev_ll, ev_ol, ev_lo, ev_oo, ev_ln, ev_lno, ev_on, ev_ono, in_ps, in_row, gEq, gNe, gIn, gNotIn, g1, g2, gLen, gList, δof, List.getElem?_cons_zero, List.getElem?_cons_succ, List.getElem?_nil, List.set_cons_zero, List.set_cons_succ, List.map_cons, List.map_nil, List.length_cons, List.length_nil, List.replicate_succ, List.replicate_zero, List.cons_append, List.nil_append, Option.bind_some, Option.bind_none, List.all_cons, List.all_nil, List.append_nil, Nat.reduceAdd, Nat.reduceSub, true_and, and_true, Bool.and_true, Bool.true_and]
  exact ⟨rfl, rfl⟩
def G_Unlike_shows (K : PySem.W.Frag) : GD := fun ds P => ∃ n ps a b xs ys, ds = [unD K a b, mK K n ps, rD xs, rD ys] ∧ xs.length ≤ 1000 ∧ ys.length ≤ 1000 ∧ P (.bl (okc n (mnd ps) a b && !decide (prt a b xs = prt a b ys)))
/-! ### Unlike.shows -/
abbrev N_Unlike_shows : List Str := ["self", "minds", "row", "another", "told"]
def T_Unlike_shows (K : PySem.W.Frag) : DS := (dSeq (dSet 4 (dFz (dCall (G_parts K) (dCons (dVar 1) (dCons (dFld K "one" (dVar 0)) (dCons (dFld K "other" (dVar 0)) (dCons (dVar 2) (dCons (dVar 3) dNil))))))))
  (dRet (dAnd (dU (fun x => .bl (!x.isNon)) (dVar 4)) (dOp gNe (dOp gIx (dVar 4) (dC (.int 0))) (dOp gIx (dVar 4) (dC (.int 1)))))))
theorem rd_Unlike_shows {K : PySem.W.Frag} (t : AnsOk K) : ∀ ds Q, G_Unlike_shows K ds Q → T_Unlike_shows K { nx := fun _ => Q .non, rt := Q } (δof N_Unlike_shows.length ds) := by
  rintro _ Q ⟨n, ps, a, b, xs, ys, rfl, hx, hy, h⟩
  simp only [T_Unlike_shows, mK, rD, dSeq, dIfS, dT, dTn, dTa, dTo, dOp, dVar, dC, dFz_eq, dCB, dCons, dNil, dCall, dCallB, dMeth, dMethB, dSet, dApp, dExt, dRet, dRetM, dNx, dDrop, dNeg, dAnd, dOr, dNot, dIf, dCh, dCh3, dU, dTup, dLst, dFld, dIsi, dIl, dIe, dIr1, dIr2, dIv1, dgN, dgT, putAll, dFor, dPar2, dPar3, dSetT, dLc, dYes, dSl, dNo, dSome, dRev, dNev, dSset, dCount, dIndex, dLrg1, dLrg2, dTwo, un_non, un_int, un_bl, un_str, un_lst, un_tup, un_obj, un_dct, un_scr, un_olst, un_oll, un_oobj, un_mv, un_m, un_p, pl_non, pl_int, pl_bl, pl_str, pl_lst, pl_tup, pl_obj, pl_dct, pl_scr, pl_m, pl_p, fzm_non, fzm_int, fzm_bl, fzm_lst, fzm_tup, fzm_obj, fzm_scr, fzm_olst, fzm_oll, fzm_oobj, fzm_m, frz_non, frz_int, frz_bl, frz_str, frz_lst, frz_tup, frz_obj, frz_dct, frz_scr, frz_olst, frz_oll, frz_m, fz_no, fz_tr, see_no, see_tr, asB_bl, asI_int, asgD_non, asgD_int, asgD_bl, asgD_lst, asgD_tup, asgD_obj, asgD_mv, asgD_m, it_lst, it_olst, it_scr, li_lst, li_olst, pit_lst, pit_scr, sz_lst, sz_olst, sz_oll, sz_scr, sz_tup, ad_int, ad_ll, ad_oo, ad_lo, ad_ol, mu_int, mu_l, mu_o, gI_int, gI0_int, gI2_int, ii_eqv, co_int, co_bl, co_non, co_row, co_rowO, co_nil, co_nilO, co_ps, co_p, co_p2, co_rows, ev_ll, ev_ol, ev_lo, ev_oo, ev_ln, ev_lno, ev_on, ev_ono, in_ps, in_row, gEq, gNe, gIn, gNotIn, g1, g2, gLen, gList, δof, List.getElem?_cons_zero, List.getElem?_cons_succ, List.getElem?_nil, List.set_cons_zero, List.set_cons_succ, List.map_cons, List.map_nil, List.length_cons, List.length_nil, List.replicate_succ, List.replicate_zero, List.cons_append, List.nil_append, Option.bind_some, Option.bind_none, List.all_cons, List.all_nil, List.append_nil, Nat.reduceAdd, Nat.reduceSub, true_and, and_true, Bool.and_true, Bool.true_and]
  refine fld_at (t.fld (A := "Unlike") (x := "one")) rfl ?_
  simp only [dSeq, dIfS, dT, dTn, dTa, dTo, dOp, dVar, dC, dFz_eq, dCB, dCons, dNil, dCall, dCallB, dMeth, dMethB, dSet, dApp, dExt, dRet, dRetM, dNx, dDrop, dNeg, dAnd, dOr, dNot, dIf, dCh, dCh3, dU, dTup, dLst, dFld, dIsi, dIl, dIe, dIr1, dIr2, dIv1, dgN, dgT, putAll, dFor, dPar2, dPar3, dSetT, dLc, dYes, dSl, dNo, dSome, dRev, dNev, dSset, dCount, dIndex, dLrg1, dLrg2, dTwo, un_non, un_int, un_bl, un_str, un_lst, un_tup, un_obj, un_dct, un_scr, un_olst, un_oll, un_oobj, un_mv, un_m, un_p, pl_non, pl_int, pl_bl, pl_str, pl_lst, pl_tup, pl_obj, pl_dct, pl_scr, pl_m, pl_p, fzm_non, fzm_int, fzm_bl, fzm_lst, fzm_tup, fzm_obj, fzm_scr, fzm_olst, fzm_oll, fzm_oobj, fzm_m, frz_non, frz_int, frz_bl, frz_str, frz_lst, frz_tup, frz_obj, frz_dct, frz_scr, frz_olst, frz_oll, frz_m, fz_no, fz_tr, see_no, see_tr, asB_bl, asI_int, asgD_non, asgD_int, asgD_bl, asgD_lst, asgD_tup, asgD_obj, asgD_mv, asgD_m, it_lst, it_olst, it_scr, li_lst, li_olst, pit_lst, pit_scr, sz_lst, sz_olst, sz_oll, sz_scr, sz_tup, ad_int, ad_ll, ad_oo, ad_lo, ad_ol, mu_int, mu_l, mu_o, gI_int, gI0_int, gI2_int, ii_eqv, co_int, co_bl, co_non, co_row, co_rowO, co_nil, co_nilO, co_ps, co_p, co_p2, co_rows, ev_ll, ev_ol, ev_lo, ev_oo, ev_ln, ev_lno, ev_on, ev_ono, in_ps, in_row, gEq, gNe, gIn, gNotIn, g1, g2, gLen, gList, δof, List.getElem?_cons_zero, List.getElem?_cons_succ, List.getElem?_nil, List.set_cons_zero, List.set_cons_succ, List.map_cons, List.map_nil, List.length_cons, List.length_nil, List.replicate_succ, List.replicate_zero, List.cons_append, List.nil_append, Option.bind_some, Option.bind_none, List.all_cons, List.all_nil, List.append_nil, Nat.reduceAdd, Nat.reduceSub, true_and, and_true, Bool.and_true, Bool.true_and]
  refine fld_at (t.fld (A := "Unlike") (x := "other")) rfl ?_
  simp only [dSeq, dIfS, dT, dTn, dTa, dTo, dOp, dVar, dC, dFz_eq, dCB, dCons, dNil, dCall, dCallB, dMeth, dMethB, dSet, dApp, dExt, dRet, dRetM, dNx, dDrop, dNeg, dAnd, dOr, dNot, dIf, dCh, dCh3, dU, dTup, dLst, dFld, dIsi, dIl, dIe, dIr1, dIr2, dIv1, dgN, dgT, putAll, dFor, dPar2, dPar3, dSetT, dLc, dYes, dSl, dNo, dSome, dRev, dNev, dSset, dCount, dIndex, dLrg1, dLrg2, dTwo, un_non, un_int, un_bl, un_str, un_lst, un_tup, un_obj, un_dct, un_scr, un_olst, un_oll, un_oobj, un_mv, un_m, un_p, pl_non, pl_int, pl_bl, pl_str, pl_lst, pl_tup, pl_obj, pl_dct, pl_scr, pl_m, pl_p, fzm_non, fzm_int, fzm_bl, fzm_lst, fzm_tup, fzm_obj, fzm_scr, fzm_olst, fzm_oll, fzm_oobj, fzm_m, frz_non, frz_int, frz_bl, frz_str, frz_lst, frz_tup, frz_obj, frz_dct, frz_scr, frz_olst, frz_oll, frz_m, fz_no, fz_tr, see_no, see_tr, asB_bl, asI_int, asgD_non, asgD_int, asgD_bl, asgD_lst, asgD_tup, asgD_obj, asgD_mv, asgD_m, it_lst, it_olst, it_scr, li_lst, li_olst, pit_lst, pit_scr, sz_lst, sz_olst, sz_oll, sz_scr, sz_tup, ad_int, ad_ll, ad_oo, ad_lo, ad_ol, mu_int, mu_l, mu_o, gI_int, gI0_int, gI2_int, ii_eqv, co_int, co_bl, co_non, co_row, co_rowO, co_nil, co_nilO, co_ps, co_p, co_p2, co_rows, ev_ll, ev_ol, ev_lo, ev_oo, ev_ln, ev_lno, ev_on, ev_ono, in_ps, in_row, gEq, gNe, gIn, gNotIn, g1, g2, gLen, gList, δof, List.getElem?_cons_zero, List.getElem?_cons_succ, List.getElem?_nil, List.set_cons_zero, List.set_cons_succ, List.map_cons, List.map_nil, List.length_cons, List.length_nil, List.replicate_succ, List.replicate_zero, List.cons_append, List.nil_append, Option.bind_some, Option.bind_none, List.all_cons, List.all_nil, List.append_nil, Nat.reduceAdd, Nat.reduceSub, true_and, and_true, Bool.and_true, Bool.true_and]
  refine ⟨n, ps, a, b, xs, ys, rfl, hx, hy, ?_⟩
  cases ho : okc n (mnd ps) a b with
  | false =>
    rw [ho] at h
    exact h
  | true =>
    rw [ho] at h
    simp only [if_true, dSeq, dIfS, dT, dTn, dTa, dTo, dOp, dVar, dC, dFz_eq, dCB, dCons, dNil, dCall, dCallB, dMeth, dMethB, dSet, dApp, dExt, dRet, dRetM, dNx, dDrop, dNeg, dAnd, dOr, dNot, dIf, dCh, dCh3, dU, dTup, dLst, dFld, dIsi, dIl, dIe, dIr1, dIr2, dIv1, dgN, dgT, putAll, dFor, dPar2, dPar3, dSetT, dLc, dYes, dSl, dNo, dSome, dRev, dNev, dSset, dCount, dIndex, dLrg1, dLrg2, dTwo, un_non, un_int, un_bl, un_str, un_lst, un_tup, un_obj, un_dct, un_scr, un_olst, un_oll, un_oobj, un_mv, un_m, un_p, pl_non, pl_int, pl_bl, pl_str, pl_lst, pl_tup, pl_obj, pl_dct, pl_scr, pl_m, pl_p, fzm_non, fzm_int, fzm_bl, fzm_lst, fzm_tup, fzm_obj, fzm_scr, fzm_olst, fzm_oll, fzm_oobj, fzm_m, frz_non, frz_int, frz_bl, frz_str, frz_lst, frz_tup, frz_obj, frz_dct, frz_scr, frz_olst, frz_oll, frz_m, fz_no, fz_tr, see_no, see_tr, asB_bl, asI_int, asgD_non, asgD_int, asgD_bl, asgD_lst, asgD_tup, asgD_obj, asgD_mv, asgD_m, it_lst, it_olst, it_scr, li_lst, li_olst, pit_lst, pit_scr, sz_lst, sz_olst, sz_oll, sz_scr, sz_tup, ad_int, ad_ll, ad_oo, ad_lo, ad_ol, mu_int, mu_l, mu_o, gI_int, gI0_int, gI2_int, ii_eqv, co_int, co_bl, co_non, co_row, co_rowO, co_nil, co_nilO, co_ps, co_p, co_p2, co_rows, ev_ll, ev_ol, ev_lo, ev_oo, ev_ln, ev_lno, ev_on, ev_ono, in_ps, in_row, gEq, gNe, gIn, gNotIn, g1, g2, gLen, gList, δof, List.getElem?_cons_zero, List.getElem?_cons_succ, List.getElem?_nil, List.set_cons_zero, List.set_cons_succ, List.map_cons, List.map_nil, List.length_cons, List.length_nil, List.replicate_succ, List.replicate_zero, List.cons_append, List.nil_append, Option.bind_some, Option.bind_none, List.all_cons, List.all_nil, List.append_nil, Nat.reduceAdd, Nat.reduceSub, true_and, and_true, Bool.and_true, Bool.true_and, nn_tup, Bool.not_false]
    refine ix_tup ⟨_, at_zero, ?_⟩
    simp only [dSeq, dIfS, dT, dTn, dTa, dTo, dOp, dVar, dC, dFz_eq, dCB, dCons, dNil, dCall, dCallB, dMeth, dMethB, dSet, dApp, dExt, dRet, dRetM, dNx, dDrop, dNeg, dAnd, dOr, dNot, dIf, dCh, dCh3, dU, dTup, dLst, dFld, dIsi, dIl, dIe, dIr1, dIr2, dIv1, dgN, dgT, putAll, dFor, dPar2, dPar3, dSetT, dLc, dYes, dSl, dNo, dSome, dRev, dNev, dSset, dCount, dIndex, dLrg1, dLrg2, dTwo, un_non, un_int, un_bl, un_str, un_lst, un_tup, un_obj, un_dct, un_scr, un_olst, un_oll, un_oobj, un_mv, un_m, un_p, pl_non, pl_int, pl_bl, pl_str, pl_lst, pl_tup, pl_obj, pl_dct, pl_scr, pl_m, pl_p, fzm_non, fzm_int, fzm_bl, fzm_lst, fzm_tup, fzm_obj, fzm_scr, fzm_olst, fzm_oll, fzm_oobj, fzm_m, frz_non, frz_int, frz_bl, frz_str, frz_lst, frz_tup, frz_obj, frz_dct, frz_scr, frz_olst, frz_oll, frz_m, fz_no, fz_tr, see_no, see_tr, asB_bl, asI_int, asgD_non, asgD_int, asgD_bl, asgD_lst, asgD_tup, asgD_obj, asgD_mv, asgD_m, it_lst, it_olst, it_scr, li_lst, li_olst, pit_lst, pit_scr, sz_lst, sz_olst, sz_oll, sz_scr, sz_tup, ad_int, ad_ll, ad_oo, ad_lo, ad_ol, mu_int, mu_l, mu_o, gI_int, gI0_int, gI2_int, ii_eqv, co_int, co_bl, co_non, co_row, co_rowO, co_nil, co_nilO, co_ps, co_p, co_p2, co_rows, ev_ll, ev_ol, ev_lo, ev_oo, ev_ln, ev_lno, ev_on, ev_ono, in_ps, in_row, gEq, gNe, gIn, gNotIn, g1, g2, gLen, gList, δof, List.getElem?_cons_zero, List.getElem?_cons_succ, List.getElem?_nil, List.set_cons_zero, List.set_cons_succ, List.map_cons, List.map_nil, List.length_cons, List.length_nil, List.replicate_succ, List.replicate_zero, List.cons_append, List.nil_append, Option.bind_some, Option.bind_none, List.all_cons, List.all_nil, List.append_nil, Nat.reduceAdd, Nat.reduceSub, true_and, and_true, Bool.and_true, Bool.true_and]
    refine ix_tup ⟨_, at_nat (i := 1) rfl, ?_⟩
    simp only [dSeq, dIfS, dT, dTn, dTa, dTo, dOp, dVar, dC, dFz_eq, dCB, dCons, dNil, dCall, dCallB, dMeth, dMethB, dSet, dApp, dExt, dRet, dRetM, dNx, dDrop, dNeg, dAnd, dOr, dNot, dIf, dCh, dCh3, dU, dTup, dLst, dFld, dIsi, dIl, dIe, dIr1, dIr2, dIv1, dgN, dgT, putAll, dFor, dPar2, dPar3, dSetT, dLc, dYes, dSl, dNo, dSome, dRev, dNev, dSset, dCount, dIndex, dLrg1, dLrg2, dTwo, un_non, un_int, un_bl, un_str, un_lst, un_tup, un_obj, un_dct, un_scr, un_olst, un_oll, un_oobj, un_mv, un_m, un_p, pl_non, pl_int, pl_bl, pl_str, pl_lst, pl_tup, pl_obj, pl_dct, pl_scr, pl_m, pl_p, fzm_non, fzm_int, fzm_bl, fzm_lst, fzm_tup, fzm_obj, fzm_scr, fzm_olst, fzm_oll, fzm_oobj, fzm_m, frz_non, frz_int, frz_bl, frz_str, frz_lst, frz_tup, frz_obj, frz_dct, frz_scr, frz_olst, frz_oll, frz_m, fz_no, fz_tr, see_no, see_tr, asB_bl, asI_int, asgD_non, asgD_int, asgD_bl, asgD_lst, asgD_tup, asgD_obj, asgD_mv, asgD_m, it_lst, it_olst, it_scr, li_lst, li_olst, pit_lst, pit_scr, sz_lst, sz_olst, sz_oll, sz_scr, sz_tup, ad_int, ad_ll, ad_oo, ad_lo, ad_ol, mu_int, mu_l, mu_o, gI_int, gI0_int, gI2_int, ii_eqv, co_int, co_bl, co_non, co_row, co_rowO, co_nil, co_nilO, co_ps, co_p, co_p2, co_rows, ev_ll, ev_ol, ev_lo, ev_oo, ev_ln, ev_lno, ev_on, ev_ono, in_ps, in_row, gEq, gNe, gIn, gNotIn, g1, g2, gLen, gList, δof, List.getElem?_cons_zero, List.getElem?_cons_succ, List.getElem?_nil, List.set_cons_zero, List.set_cons_succ, List.map_cons, List.map_nil, List.length_cons, List.length_nil, List.replicate_succ, List.replicate_zero, List.cons_append, List.nil_append, Option.bind_some, Option.bind_none, List.all_cons, List.all_nil, List.append_nil, Nat.reduceAdd, Nat.reduceSub, true_and, and_true, Bool.and_true, Bool.true_and]
    exact h
/-! ### alike -/
def G_check_two (K : PySem.W.Frag) : GD := fun ds P => ∃ n ps xs ys, ds = [mK K n ps, rD xs, rD ys] ∧ (Kinds n xs ∧ xs.length ≤ 1000) ∧ (Kinds n ys ∧ ys.length ≤ 1000) ∧ P .non
/-! ### check_two -/
abbrev N_check_two : List Str := ["minds", "one", "other"]
def T_check_two (K : PySem.W.Frag) : DS := (dSeq (dDrop (dCall (G_check_row K) (dCons (dVar 0) (dCons (dVar 1) dNil))))
  (dDrop (dCall (G_check_row K) (dCons (dVar 0) (dCons (dVar 2) dNil)))))
theorem rd_check_two {K : PySem.W.Frag} : ∀ ds Q, G_check_two K ds Q → T_check_two K { nx := fun _ => Q .non, rt := Q } (δof N_check_two.length ds) := by
  rintro _ Q ⟨n, ps, xs, ys, rfl, hx, hy, h⟩
  simp only [T_check_two, mK, rD, dSeq, dIfS, dT, dTn, dTa, dTo, dOp, dVar, dC, dFz_eq, dCB, dCons, dNil, dCall, dCallB, dMeth, dMethB, dSet, dApp, dExt, dRet, dRetM, dNx, dDrop, dNeg, dAnd, dOr, dNot, dIf, dCh, dCh3, dU, dTup, dLst, dFld, dIsi, dIl, dIe, dIr1, dIr2, dIv1, dgN, dgT, putAll, dFor, dPar2, dPar3, dSetT, dLc, dYes, dSl, dNo, dSome, dRev, dNev, dSset, dCount, dIndex, dLrg1, dLrg2, dTwo, un_non, un_int, un_bl, un_str, un_lst, un_tup, un_obj, un_dct, un_scr, un_olst, un_oll, un_oobj, un_mv, un_m, un_p, pl_non, pl_int, pl_bl, pl_str, pl_lst, pl_tup, pl_obj, pl_dct, pl_scr, pl_m, pl_p, fzm_non, fzm_int, fzm_bl, fzm_lst, fzm_tup, fzm_obj, fzm_scr, fzm_olst, fzm_oll, fzm_oobj, fzm_m, frz_non, frz_int, frz_bl, frz_str, frz_lst, frz_tup, frz_obj, frz_dct, frz_scr, frz_olst, frz_oll, frz_m, fz_no, fz_tr, see_no, see_tr, asB_bl, asI_int, asgD_non, asgD_int, asgD_bl, asgD_lst, asgD_tup, asgD_obj, asgD_mv, asgD_m, it_lst, it_olst, it_scr, li_lst, li_olst, pit_lst, pit_scr, sz_lst, sz_olst, sz_oll, sz_scr, sz_tup, ad_int, ad_ll, ad_oo, ad_lo, ad_ol, mu_int, mu_l, mu_o, gI_int, gI0_int, gI2_int, ii_eqv, co_int, co_bl, co_non, co_row, co_rowO, co_nil, co_nilO, co_ps, co_p, co_p2, co_rows, ev_ll, ev_ol, ev_lo, ev_oo, ev_ln, ev_lno, ev_on, ev_ono, in_ps, in_row, gEq, gNe, gIn, gNotIn, g1, g2, gLen, gList, δof, List.getElem?_cons_zero, List.getElem?_cons_succ, List.getElem?_nil, List.set_cons_zero, List.set_cons_succ, List.map_cons, List.map_nil, List.length_cons, List.length_nil, List.replicate_succ, List.replicate_zero, List.cons_append, List.nil_append, Option.bind_some, Option.bind_none, List.all_cons, List.all_nil, List.append_nil, Nat.reduceAdd, Nat.reduceSub, true_and, and_true, Bool.and_true, Bool.true_and]
  exact ⟨n, ps, xs, rfl, hx.1, hx.2, n, ps, ys, rfl, hy.1, hy.2, h⟩
theorem unF_some {m : Int → Int → Bool} (hm : Mi m) {xs ys : List Int} {c : Int × Int} (h : unF m xs ys = some c) : c.1 ≤ c.2 ∧ m c.1 c.2 = true ∧ (c.1 ∈ xs ++ ys ∧ c.2 ∈ xs ++ ys) ∧ prt c.1 c.2 xs ≠ prt c.1 c.2 ys := by
  unfold unF at h
  have h1 := List.mem_of_find?_eq_some h
  have h3 := List.find?_some h
  have h2 : prt c.1 c.2 xs ≠ prt c.1 c.2 ys := of_decide_eq_true h3
  obtain ⟨a, b⟩ := cpl_mi hm h1
  obtain ⟨k1, k2, _⟩ := mem_cpl.mp (show (c.1, c.2) ∈ _ from h1)
  exact ⟨a, b, ⟨mem_uni.mp k1, mem_uni.mp k2⟩, h2⟩
theorem unF_none {m : Int → Int → Bool} (hm : Mi m) {xs ys : List Int} (h : unF m xs ys = none) : Tr m xs ys := by
  unfold unF at h
  refine tr_of_prt hm fun a b hab => all_cpl hm (R := fun p q => p = q) rfl (fun c hc => ?_) a b hab
  have z := List.find?_eq_none.mp h c hc
  simpa using z
def G_alike (K : PySem.W.Frag) : GD := fun ds P => ∃ n ps xs ys, ds = [mK K n ps, rD xs, rD ys] ∧ (Kinds n xs ∧ xs.length ≤ 130) ∧ (Kinds n ys ∧ ys.length ≤ 130) ∧ (∀ pl, ledF (mnd ps) xs ys = some pl → P (.mv (.oobj (He.ga K "Same") (sameG pl)))) ∧
  (¬ Tr (mnd ps) xs ys → ∀ c, unF (mnd ps) xs ys = some c → P (.mv (.oobj (He.ga K "Unlike") (twoG c.1 c.2))))
/-! ### alike -/
abbrev N_alike : List Str := ["minds", "one", "other", "places", "first", "second"]
def T_alike (K : PySem.W.Frag) : DS := (dSeq (dDrop (dCall (G_check_two K) (dCons (dVar 0) (dCons (dVar 1) (dCons (dVar 2) dNil)))))
  (dSeq (dSet 3 (dFz (dCall (G_led K) (dCons (dVar 0) (dCons (dVar 1) (dCons (dVar 2) dNil))))))
  (dSeq (dIfS (dT (dU (fun x => .bl (!x.isNon)) (dVar 3))) (dRet (dCall (G_Same_init K) (dCons (dVar 3) dNil))) dNx)
  (dSeq (dSetT [4, 5] (dFz (dCall (G_unlike K) (dCons (dVar 0) (dCons (dVar 1) (dCons (dVar 2) dNil))))))
  (dRet (dCall (G_Unlike_init K) (dCons (dVar 4) (dCons (dVar 5) dNil))))))))
theorem rd_alike {K : PySem.W.Frag} : ∀ ds Q, G_alike K ds Q → T_alike K { nx := fun _ => Q .non, rt := Q } (δof N_alike.length ds) := by
  rintro _ Q ⟨n, ps, xs, ys, rfl, hx, hy, h1, h2⟩
  simp only [T_alike, mK, rD, dSeq, dIfS, dT, dTn, dTa, dTo, dOp, dVar, dC, dFz_eq, dCB, dCons, dNil, dCall, dCallB, dMeth, dMethB, dSet, dApp, dExt, dRet, dRetM, dNx, dDrop, dNeg, dAnd, dOr, dNot, dIf, dCh, dCh3, dU, dTup, dLst, dFld, dIsi, dIl, dIe, dIr1, dIr2, dIv1, dgN, dgT, putAll, dFor, dPar2, dPar3, dSetT, dLc, dYes, dSl, dNo, dSome, dRev, dNev, dSset, dCount, dIndex, dLrg1, dLrg2, dTwo, un_non, un_int, un_bl, un_str, un_lst, un_tup, un_obj, un_dct, un_scr, un_olst, un_oll, un_oobj, un_mv, un_m, un_p, pl_non, pl_int, pl_bl, pl_str, pl_lst, pl_tup, pl_obj, pl_dct, pl_scr, pl_m, pl_p, fzm_non, fzm_int, fzm_bl, fzm_lst, fzm_tup, fzm_obj, fzm_scr, fzm_olst, fzm_oll, fzm_oobj, fzm_m, frz_non, frz_int, frz_bl, frz_str, frz_lst, frz_tup, frz_obj, frz_dct, frz_scr, frz_olst, frz_oll, frz_m, fz_no, fz_tr, see_no, see_tr, asB_bl, asI_int, asgD_non, asgD_int, asgD_bl, asgD_lst, asgD_tup, asgD_obj, asgD_mv, asgD_m, it_lst, it_olst, it_scr, li_lst, li_olst, pit_lst, pit_scr, sz_lst, sz_olst, sz_oll, sz_scr, sz_tup, ad_int, ad_ll, ad_oo, ad_lo, ad_ol, mu_int, mu_l, mu_o, gI_int, gI0_int, gI2_int, ii_eqv, co_int, co_bl, co_non, co_row, co_rowO, co_nil, co_nilO, co_ps, co_p, co_p2, co_rows, ev_ll, ev_ol, ev_lo, ev_oo, ev_ln, ev_lno, ev_on, ev_ono, in_ps, in_row, gEq, gNe, gIn, gNotIn, g1, g2, gLen, gList, δof, List.getElem?_cons_zero, List.getElem?_cons_succ, List.getElem?_nil, List.set_cons_zero, List.set_cons_succ, List.map_cons, List.map_nil, List.length_cons, List.length_nil, List.replicate_succ, List.replicate_zero, List.cons_append, List.nil_append, Option.bind_some, Option.bind_none, List.all_cons, List.all_nil, List.append_nil, Nat.reduceAdd, Nat.reduceSub, true_and, and_true, Bool.and_true, Bool.true_and]
  refine ⟨n, ps, xs, ys, rfl, ⟨hx.1, by omega⟩, ⟨hy.1, by omega⟩, n, ps, xs, ys, rfl, by omega, by omega, ?_⟩
  cases e : ledF (mnd ps) xs ys with
  | some pl =>
    simp only [dSeq, dIfS, dT, dTn, dTa, dTo, dOp, dVar, dC, dFz_eq, dCB, dCons, dNil, dCall, dCallB, dMeth, dMethB, dSet, dApp, dExt, dRet, dRetM, dNx, dDrop, dNeg, dAnd, dOr, dNot, dIf, dCh, dCh3, dU, dTup, dLst, dFld, dIsi, dIl, dIe, dIr1, dIr2, dIv1, dgN, dgT, putAll, dFor, dPar2, dPar3, dSetT, dLc, dYes, dSl, dNo, dSome, dRev, dNev, dSset, dCount, dIndex, dLrg1, dLrg2, dTwo, un_non, un_int, un_bl, un_str, un_lst, un_tup, un_obj, un_dct, un_scr, un_olst, un_oll, un_oobj, un_mv, un_m, un_p, pl_non, pl_int, pl_bl, pl_str, pl_lst, pl_tup, pl_obj, pl_dct, pl_scr, pl_m, pl_p, fzm_non, fzm_int, fzm_bl, fzm_lst, fzm_tup, fzm_obj, fzm_scr, fzm_olst, fzm_oll, fzm_oobj, fzm_m, frz_non, frz_int, frz_bl, frz_str, frz_lst, frz_tup, frz_obj, frz_dct, frz_scr, frz_olst, frz_oll, frz_m, fz_no, fz_tr, see_no, see_tr, asB_bl, asI_int, asgD_non, asgD_int, asgD_bl, asgD_lst, asgD_tup, asgD_obj, asgD_mv, asgD_m, it_lst, it_olst, it_scr, li_lst, li_olst, pit_lst, pit_scr, sz_lst, sz_olst, sz_oll, sz_scr, sz_tup, ad_int, ad_ll, ad_oo, ad_lo, ad_ol, mu_int, mu_l, mu_o, gI_int, gI0_int, gI2_int, ii_eqv, co_int, co_bl, co_non, co_row, co_rowO, co_nil, co_nilO, co_ps, co_p, co_p2, co_rows, ev_ll, ev_ol, ev_lo, ev_oo, ev_ln, ev_lno, ev_on, ev_ono, in_ps, in_row, gEq, gNe, gIn, gNotIn, g1, g2, gLen, gList, δof, List.getElem?_cons_zero, List.getElem?_cons_succ, List.getElem?_nil, List.set_cons_zero, List.set_cons_succ, List.map_cons, List.map_nil, List.length_cons, List.length_nil, List.replicate_succ, List.replicate_zero, List.cons_append, List.nil_append, Option.bind_some, Option.bind_none, List.all_cons, List.all_nil, List.append_nil, Nat.reduceAdd, Nat.reduceSub, true_and, and_true, Bool.and_true, Bool.true_and, nn_lst, Bool.not_false]
    exact ⟨pl, rfl, h1 pl e⟩
  | none =>
    have nt : ¬ Tr (mnd ps) xs ys := fun t => by
      have z := (ledF_tr (mi_mnd ps)).mpr t
      rw [e] at z
      cases z
    simp only [dSeq, dIfS, dT, dTn, dTa, dTo, dOp, dVar, dC, dFz_eq, dCB, dCons, dNil, dCall, dCallB, dMeth, dMethB, dSet, dApp, dExt, dRet, dRetM, dNx, dDrop, dNeg, dAnd, dOr, dNot, dIf, dCh, dCh3, dU, dTup, dLst, dFld, dIsi, dIl, dIe, dIr1, dIr2, dIv1, dgN, dgT, putAll, dFor, dPar2, dPar3, dSetT, dLc, dYes, dSl, dNo, dSome, dRev, dNev, dSset, dCount, dIndex, dLrg1, dLrg2, dTwo, un_non, un_int, un_bl, un_str, un_lst, un_tup, un_obj, un_dct, un_scr, un_olst, un_oll, un_oobj, un_mv, un_m, un_p, pl_non, pl_int, pl_bl, pl_str, pl_lst, pl_tup, pl_obj, pl_dct, pl_scr, pl_m, pl_p, fzm_non, fzm_int, fzm_bl, fzm_lst, fzm_tup, fzm_obj, fzm_scr, fzm_olst, fzm_oll, fzm_oobj, fzm_m, frz_non, frz_int, frz_bl, frz_str, frz_lst, frz_tup, frz_obj, frz_dct, frz_scr, frz_olst, frz_oll, frz_m, fz_no, fz_tr, see_no, see_tr, asB_bl, asI_int, asgD_non, asgD_int, asgD_bl, asgD_lst, asgD_tup, asgD_obj, asgD_mv, asgD_m, it_lst, it_olst, it_scr, li_lst, li_olst, pit_lst, pit_scr, sz_lst, sz_olst, sz_oll, sz_scr, sz_tup, ad_int, ad_ll, ad_oo, ad_lo, ad_ol, mu_int, mu_l, mu_o, gI_int, gI0_int, gI2_int, ii_eqv, co_int, co_bl, co_non, co_row, co_rowO, co_nil, co_nilO, co_ps, co_p, co_p2, co_rows, ev_ll, ev_ol, ev_lo, ev_oo, ev_ln, ev_lno, ev_on, ev_ono, in_ps, in_row, gEq, gNe, gIn, gNotIn, g1, g2, gLen, gList, δof, List.getElem?_cons_zero, List.getElem?_cons_succ, List.getElem?_nil, List.set_cons_zero, List.set_cons_succ, List.map_cons, List.map_nil, List.length_cons, List.length_nil, List.replicate_succ, List.replicate_zero, List.cons_append, List.nil_append, Option.bind_some, Option.bind_none, List.all_cons, List.all_nil, List.append_nil, Nat.reduceAdd, Nat.reduceSub, true_and, and_true, Bool.and_true, Bool.true_and, nn_non, Bool.not_true]
    refine ⟨n, ps, xs, ys, rfl, hx.2, hy.2, ?_⟩
    cases q : unF (mnd ps) xs ys with
    | none => exact absurd (unF_none (mi_mnd ps) q) nt
    | some c =>
      simp only [pD, dSeq, dIfS, dT, dTn, dTa, dTo, dOp, dVar, dC, dFz_eq, dCB, dCons, dNil, dCall, dCallB, dMeth, dMethB, dSet, dApp, dExt, dRet, dRetM, dNx, dDrop, dNeg, dAnd, dOr, dNot, dIf, dCh, dCh3, dU, dTup, dLst, dFld, dIsi, dIl, dIe, dIr1, dIr2, dIv1, dgN, dgT, putAll, dFor, dPar2, dPar3, dSetT, dLc, dYes, dSl, dNo, dSome, dRev, dNev, dSset, dCount, dIndex, dLrg1, dLrg2, dTwo, un_non, un_int, un_bl, un_str, un_lst, un_tup, un_obj, un_dct, un_scr, un_olst, un_oll, un_oobj, un_mv, un_m, un_p, pl_non, pl_int, pl_bl, pl_str, pl_lst, pl_tup, pl_obj, pl_dct, pl_scr, pl_m, pl_p, fzm_non, fzm_int, fzm_bl, fzm_lst, fzm_tup, fzm_obj, fzm_scr, fzm_olst, fzm_oll, fzm_oobj, fzm_m, frz_non, frz_int, frz_bl, frz_str, frz_lst, frz_tup, frz_obj, frz_dct, frz_scr, frz_olst, frz_oll, frz_m, fz_no, fz_tr, see_no, see_tr, asB_bl, asI_int, asgD_non, asgD_int, asgD_bl, asgD_lst, asgD_tup, asgD_obj, asgD_mv, asgD_m, it_lst, it_olst, it_scr, li_lst, li_olst, pit_lst, pit_scr, sz_lst, sz_olst, sz_oll, sz_scr, sz_tup, ad_int, ad_ll, ad_oo, ad_lo, ad_ol, mu_int, mu_l, mu_o, gI_int, gI0_int, gI2_int, ii_eqv, co_int, co_bl, co_non, co_row, co_rowO, co_nil, co_nilO, co_ps, co_p, co_p2, co_rows, ev_ll, ev_ol, ev_lo, ev_oo, ev_ln, ev_lno, ev_on, ev_ono, in_ps, in_row, gEq, gNe, gIn, gNotIn, g1, g2, gLen, gList, δof, List.getElem?_cons_zero, List.getElem?_cons_succ, List.getElem?_nil, List.set_cons_zero, List.set_cons_succ, List.map_cons, List.map_nil, List.length_cons, List.length_nil, List.replicate_succ, List.replicate_zero, List.cons_append, List.nil_append, Option.bind_some, Option.bind_none, List.all_cons, List.all_nil, List.append_nil, Nat.reduceAdd, Nat.reduceSub, true_and, and_true, Bool.and_true, Bool.true_and]
      exact ⟨c.1, c.2, rfl, h2 nt c q⟩
end J
/-! P6: the laws' own defs over two rows -/
namespace J
open PySem PySem.Spec PyProof.Rows L2
def G_law_crossed (_K : PySem.W.Frag) : GD := fun ds P => ∃ (xs : List Int) (ps : List (Int × Int)) (d : D) (cs : List Int), ds = [rD xs, .lst (ps.map pD), d] ∧ d.ints = some cs ∧ (d.plain = true ∧ d.un = d ∧ frz d = d) ∧ xs.length ≤ 1000 ∧ ∀ ys : List Int, ys.Perm xs → P (.mv (.olst (ys.map .int)))
/-! ### law_crossed -/
abbrev N_law_crossed : List Str := ["_law_row_here", "_law_pairs", "_law_script", "_law_found", "_law_k", "_law_at"]
def T_law_crossed_f1 (K : PySem.W.Frag) : DS := (dSeq (dSet 5 (dFz (dOp (gI (fun _ j => j ≠ 0) fun i j => .int (i.fmod j)) (dOp gAdd (dVar 4) (dCB gSum (dCons (dVar 2) dNil))) (dOp (gI0 fun i j => .int (i - j)) (dCB gLen (dCons (dVar 0) dNil)) (dC (.int 1))))))
  (dIfS (dTa (dT (dOp gNe (dOp gIx (dVar 0) (dVar 5)) (dOp gIx (dVar 0) (dOp gAdd (dVar 5) (dC (.int 1)))))) (dT (dCall (G_law_mind K) (dCons (dVar 1) (dCons (dOp gIx (dVar 0) (dVar 5)) (dCons (dOp gIx (dVar 0) (dOp gAdd (dVar 5) (dC (.int 1)))) dNil)))))) (dSeq (dSwap 3 (dVar 5) (dOp gAdd (dVar 5) (dC (.int 1))) (dTup (dCons (dOp gIx (dVar 0) (dOp gAdd (dVar 5) (dC (.int 1)))) (dCons (dOp gIx (dVar 0) (dVar 5)) dNil))))
  (dRetM 3)) dNx))
def T_law_crossed (K : PySem.W.Frag) : DS := (dSeq (dSet 3 (dCB gList (dCons (dVar 0) dNil)))
  (dSeq (dFor (dIr1 (dCons (dOp (gI0 fun i j => .int (i - j)) (dCB gLen (dCons (dVar 0) dNil)) (dC (.int 1))) dNil)) (dgN 4) (T_law_crossed_f1 K))
  (dRetM 3)))
theorem crossed_f {K : PySem.W.Frag} {xs cs : List Int} {ps : List (Int × Int)} {d : D} {E : EndsD} (hd : d.ints = some cs) (hl : xs.length ≤ 1000) (h0 : d.un = d) (h : ∀ ys : List Int, ys.Perm xs → E.rt (.mv (.olst (ys.map .int)))) (h2 : ∀ e4 e5, E.nx [.tr (rD xs), .tr (.lst (ps.map pD)), .tr d, .tr (.olst (xs.map .int)), e4, e5]) :
    ∀ (ks : List Int), (∀ k ∈ ks, 0 ≤ k ∧ k < (xs.length : Int) - 1) → ∀ (e4 e5 : DV), forGo (dgN 4) (T_law_crossed_f1 K) E (ks.map .int) [.tr (rD xs), .tr (.lst (ps.map pD)), .tr d, .tr (.olst (xs.map .int)), e4, e5]
  | [], _, e4, e5 => h2 e4 e5
  | k :: ks, hk, e4, e5 => by
    obtain ⟨k0, k1⟩ := hk k List.mem_cons_self
    refine forGo_op fun N hN => ?_
    simp only [T_law_crossed_f1, rD, dSeq, dIfS, dT, dTn, dTa, dTo, dOp, dVar, dC, dFz_eq, dCB, dCons, dNil, dCall, dCallB, dMeth, dMethB, dSet, dApp, dExt, dRet, dRetM, dNx, dDrop, dNeg, dAnd, dOr, dNot, dIf, dCh, dCh3, dU, dTup, dLst, dFld, dIsi, dIl, dIe, dIr1, dIr2, dIv1, dgN, dgT, putAll, dFor, dPar2, dPar3, dSetT, dLc, dYes, dSl, dNo, dSome, dRev, dNev, dSset, dCount, dIndex, dLrg1, dLrg2, dTwo, un_non, un_int, un_bl, un_str, un_lst, un_tup, un_obj, un_dct, un_scr, un_olst, un_oll, un_oobj, un_mv, un_m, un_p, pl_non, pl_int, pl_bl, pl_str, pl_lst, pl_tup, pl_obj, pl_dct, pl_scr, pl_m, pl_p, fzm_non, fzm_int, fzm_bl, fzm_lst, fzm_tup, fzm_obj, fzm_scr, fzm_olst, fzm_oll, fzm_oobj, fzm_m, frz_non, frz_int, frz_bl, frz_str, frz_lst, frz_tup, frz_obj, frz_dct, frz_scr, frz_olst, frz_oll, frz_m, fz_no, fz_tr, see_no, see_tr, asB_bl, asI_int, asgD_non, asgD_int, asgD_bl, asgD_lst, asgD_tup, asgD_obj, asgD_mv, asgD_m, it_lst, it_olst, it_scr, li_lst, li_olst, pit_lst, pit_scr, sz_lst, sz_olst, sz_oll, sz_scr, sz_tup, ad_int, ad_ll, ad_oo, ad_lo, ad_ol, mu_int, mu_l, mu_o, gI_int, gI0_int, gI2_int, ii_eqv, co_int, co_bl, co_non, co_row, co_rowO, co_nil, co_nilO, co_ps, co_p, co_p2, co_rows, ev_ll, ev_ol, ev_lo, ev_oo, ev_ln, ev_lno, ev_on, ev_ono, in_ps, in_row, gEq, gNe, gIn, gNotIn, g1, g2, gLen, gList, δof, List.getElem?_cons_zero, List.getElem?_cons_succ, List.getElem?_nil, List.set_cons_zero, List.set_cons_succ, List.map_cons, List.map_nil, List.length_cons, List.length_nil, List.replicate_succ, List.replicate_zero, List.cons_append, List.nil_append, Option.bind_some, Option.bind_none, List.all_cons, List.all_nil, List.append_nil, Nat.reduceAdd, Nat.reduceSub, true_and, and_true, Bool.and_true, Bool.true_and, gSum, gInts, h0, hd, List.length_map]
    refine ⟨by omega, ?_⟩
    have v0 := Int.fmod_nonneg_of_pos (k + cs.sum) (b := (xs.length : Int) - 1) (by omega)
    have v1 := Int.fmod_lt_of_pos (k + cs.sum) (b := (xs.length : Int) - 1) (by omega)
    generalize (k + cs.sum).fmod ((xs.length : Int) - 1) = v at *
    obtain ⟨p, rfl⟩ := Int.eq_ofNat_of_zero_le v0
    obtain ⟨A, a, b, B, ex, ep⟩ := split_at (xs := xs) (p := p) (by omega)
    subst ep
    have q : ((A.length : Int) + 1) = ((A.length + 1 : Nat) : Int) := by omega
    have e1 : (xs.map D.int)[A.length]? = some (.int a) := by rw [List.getElem?_map, ex, at_mid]; rfl
    have e2 : (xs.map D.int)[A.length + 1]? = some (.int b) := by rw [List.getElem?_map, ex, at_mid1]; rfl
    simp only [q]
    have rest : N [.tr (rD xs), .tr (.lst (ps.map pD)), .tr d, .tr (.olst (xs.map .int)), .tr (.int k), .tr (.int (A.length : Int))] := by
      rw [hN]
      exact crossed_f hd hl h0 h h2 ks (fun j hj => hk j (List.mem_cons_of_mem _ hj)) _ _
    refine ix_lst ⟨_, at_nat e1, ?_⟩
    simp only [dSeq, dIfS, dT, dTn, dTa, dTo, dOp, dVar, dC, dFz_eq, dCB, dCons, dNil, dCall, dCallB, dMeth, dMethB, dSet, dApp, dExt, dRet, dRetM, dNx, dDrop, dNeg, dAnd, dOr, dNot, dIf, dCh, dCh3, dU, dTup, dLst, dFld, dIsi, dIl, dIe, dIr1, dIr2, dIv1, dgN, dgT, putAll, dFor, dPar2, dPar3, dSetT, dLc, dYes, dSl, dNo, dSome, dRev, dNev, dSset, dCount, dIndex, dLrg1, dLrg2, dTwo, un_non, un_int, un_bl, un_str, un_lst, un_tup, un_obj, un_dct, un_scr, un_olst, un_oll, un_oobj, un_mv, un_m, un_p, pl_non, pl_int, pl_bl, pl_str, pl_lst, pl_tup, pl_obj, pl_dct, pl_scr, pl_m, pl_p, fzm_non, fzm_int, fzm_bl, fzm_lst, fzm_tup, fzm_obj, fzm_scr, fzm_olst, fzm_oll, fzm_oobj, fzm_m, frz_non, frz_int, frz_bl, frz_str, frz_lst, frz_tup, frz_obj, frz_dct, frz_scr, frz_olst, frz_oll, frz_m, fz_no, fz_tr, see_no, see_tr, asB_bl, asI_int, asgD_non, asgD_int, asgD_bl, asgD_lst, asgD_tup, asgD_obj, asgD_mv, asgD_m, it_lst, it_olst, it_scr, li_lst, li_olst, pit_lst, pit_scr, sz_lst, sz_olst, sz_oll, sz_scr, sz_tup, ad_int, ad_ll, ad_oo, ad_lo, ad_ol, mu_int, mu_l, mu_o, gI_int, gI0_int, gI2_int, ii_eqv, co_int, co_bl, co_non, co_row, co_rowO, co_nil, co_nilO, co_ps, co_p, co_p2, co_rows, ev_ll, ev_ol, ev_lo, ev_oo, ev_ln, ev_lno, ev_on, ev_ono, in_ps, in_row, gEq, gNe, gIn, gNotIn, g1, g2, gLen, gList, δof, List.getElem?_cons_zero, List.getElem?_cons_succ, List.getElem?_nil, List.set_cons_zero, List.set_cons_succ, List.map_cons, List.map_nil, List.length_cons, List.length_nil, List.replicate_succ, List.replicate_zero, List.cons_append, List.nil_append, Option.bind_some, Option.bind_none, List.all_cons, List.all_nil, List.append_nil, Nat.reduceAdd, Nat.reduceSub, true_and, and_true, Bool.and_true, Bool.true_and]
    refine ix_lst ⟨_, at_nat e2, ?_⟩
    simp only [dSeq, dIfS, dT, dTn, dTa, dTo, dOp, dVar, dC, dFz_eq, dCB, dCons, dNil, dCall, dCallB, dMeth, dMethB, dSet, dApp, dExt, dRet, dRetM, dNx, dDrop, dNeg, dAnd, dOr, dNot, dIf, dCh, dCh3, dU, dTup, dLst, dFld, dIsi, dIl, dIe, dIr1, dIr2, dIv1, dgN, dgT, putAll, dFor, dPar2, dPar3, dSetT, dLc, dYes, dSl, dNo, dSome, dRev, dNev, dSset, dCount, dIndex, dLrg1, dLrg2, dTwo, un_non, un_int, un_bl, un_str, un_lst, un_tup, un_obj, un_dct, un_scr, un_olst, un_oll, un_oobj, un_mv, un_m, un_p, pl_non, pl_int, pl_bl, pl_str, pl_lst, pl_tup, pl_obj, pl_dct, pl_scr, pl_m, pl_p, fzm_non, fzm_int, fzm_bl, fzm_lst, fzm_tup, fzm_obj, fzm_scr, fzm_olst, fzm_oll, fzm_oobj, fzm_m, frz_non, frz_int, frz_bl, frz_str, frz_lst, frz_tup, frz_obj, frz_dct, frz_scr, frz_olst, frz_oll, frz_m, fz_no, fz_tr, see_no, see_tr, asB_bl, asI_int, asgD_non, asgD_int, asgD_bl, asgD_lst, asgD_tup, asgD_obj, asgD_mv, asgD_m, it_lst, it_olst, it_scr, li_lst, li_olst, pit_lst, pit_scr, sz_lst, sz_olst, sz_oll, sz_scr, sz_tup, ad_int, ad_ll, ad_oo, ad_lo, ad_ol, mu_int, mu_l, mu_o, gI_int, gI0_int, gI2_int, ii_eqv, co_int, co_bl, co_non, co_row, co_rowO, co_nil, co_nilO, co_ps, co_p, co_p2, co_rows, ev_ll, ev_ol, ev_lo, ev_oo, ev_ln, ev_lno, ev_on, ev_ono, in_ps, in_row, gEq, gNe, gIn, gNotIn, g1, g2, gLen, gList, δof, List.getElem?_cons_zero, List.getElem?_cons_succ, List.getElem?_nil, List.set_cons_zero, List.set_cons_succ, List.map_cons, List.map_nil, List.length_cons, List.length_nil, List.replicate_succ, List.replicate_zero, List.cons_append, List.nil_append, Option.bind_some, Option.bind_none, List.all_cons, List.all_nil, List.append_nil, Nat.reduceAdd, Nat.reduceSub, true_and, and_true, Bool.and_true, Bool.true_and]
    by_cases hab : a = b
    · rw [decide_eq_true hab]
      exact rest
    · rw [decide_eq_false hab]
      simp only [dSeq, dIfS, dT, dTn, dTa, dTo, dOp, dVar, dC, dFz_eq, dCB, dCons, dNil, dCall, dCallB, dMeth, dMethB, dSet, dApp, dExt, dRet, dRetM, dNx, dDrop, dNeg, dAnd, dOr, dNot, dIf, dCh, dCh3, dU, dTup, dLst, dFld, dIsi, dIl, dIe, dIr1, dIr2, dIv1, dgN, dgT, putAll, dFor, dPar2, dPar3, dSetT, dLc, dYes, dSl, dNo, dSome, dRev, dNev, dSset, dCount, dIndex, dLrg1, dLrg2, dTwo, un_non, un_int, un_bl, un_str, un_lst, un_tup, un_obj, un_dct, un_scr, un_olst, un_oll, un_oobj, un_mv, un_m, un_p, pl_non, pl_int, pl_bl, pl_str, pl_lst, pl_tup, pl_obj, pl_dct, pl_scr, pl_m, pl_p, fzm_non, fzm_int, fzm_bl, fzm_lst, fzm_tup, fzm_obj, fzm_scr, fzm_olst, fzm_oll, fzm_oobj, fzm_m, frz_non, frz_int, frz_bl, frz_str, frz_lst, frz_tup, frz_obj, frz_dct, frz_scr, frz_olst, frz_oll, frz_m, fz_no, fz_tr, see_no, see_tr, asB_bl, asI_int, asgD_non, asgD_int, asgD_bl, asgD_lst, asgD_tup, asgD_obj, asgD_mv, asgD_m, it_lst, it_olst, it_scr, li_lst, li_olst, pit_lst, pit_scr, sz_lst, sz_olst, sz_oll, sz_scr, sz_tup, ad_int, ad_ll, ad_oo, ad_lo, ad_ol, mu_int, mu_l, mu_o, gI_int, gI0_int, gI2_int, ii_eqv, co_int, co_bl, co_non, co_row, co_rowO, co_nil, co_nilO, co_ps, co_p, co_p2, co_rows, ev_ll, ev_ol, ev_lo, ev_oo, ev_ln, ev_lno, ev_on, ev_ono, in_ps, in_row, gEq, gNe, gIn, gNotIn, g1, g2, gLen, gList, δof, List.getElem?_cons_zero, List.getElem?_cons_succ, List.getElem?_nil, List.set_cons_zero, List.set_cons_succ, List.map_cons, List.map_nil, List.length_cons, List.length_nil, List.replicate_succ, List.replicate_zero, List.cons_append, List.nil_append, Option.bind_some, Option.bind_none, List.all_cons, List.all_nil, List.append_nil, Nat.reduceAdd, Nat.reduceSub, true_and, and_true, Bool.and_true, Bool.true_and, Bool.not_false]
      refine ix_lst ⟨_, at_nat e1, ?_⟩
      simp only [dSeq, dIfS, dT, dTn, dTa, dTo, dOp, dVar, dC, dFz_eq, dCB, dCons, dNil, dCall, dCallB, dMeth, dMethB, dSet, dApp, dExt, dRet, dRetM, dNx, dDrop, dNeg, dAnd, dOr, dNot, dIf, dCh, dCh3, dU, dTup, dLst, dFld, dIsi, dIl, dIe, dIr1, dIr2, dIv1, dgN, dgT, putAll, dFor, dPar2, dPar3, dSetT, dLc, dYes, dSl, dNo, dSome, dRev, dNev, dSset, dCount, dIndex, dLrg1, dLrg2, dTwo, un_non, un_int, un_bl, un_str, un_lst, un_tup, un_obj, un_dct, un_scr, un_olst, un_oll, un_oobj, un_mv, un_m, un_p, pl_non, pl_int, pl_bl, pl_str, pl_lst, pl_tup, pl_obj, pl_dct, pl_scr, pl_m, pl_p, fzm_non, fzm_int, fzm_bl, fzm_lst, fzm_tup, fzm_obj, fzm_scr, fzm_olst, fzm_oll, fzm_oobj, fzm_m, frz_non, frz_int, frz_bl, frz_str, frz_lst, frz_tup, frz_obj, frz_dct, frz_scr, frz_olst, frz_oll, frz_m, fz_no, fz_tr, see_no, see_tr, asB_bl, asI_int, asgD_non, asgD_int, asgD_bl, asgD_lst, asgD_tup, asgD_obj, asgD_mv, asgD_m, it_lst, it_olst, it_scr, li_lst, li_olst, pit_lst, pit_scr, sz_lst, sz_olst, sz_oll, sz_scr, sz_tup, ad_int, ad_ll, ad_oo, ad_lo, ad_ol, mu_int, mu_l, mu_o, gI_int, gI0_int, gI2_int, ii_eqv, co_int, co_bl, co_non, co_row, co_rowO, co_nil, co_nilO, co_ps, co_p, co_p2, co_rows, ev_ll, ev_ol, ev_lo, ev_oo, ev_ln, ev_lno, ev_on, ev_ono, in_ps, in_row, gEq, gNe, gIn, gNotIn, g1, g2, gLen, gList, δof, List.getElem?_cons_zero, List.getElem?_cons_succ, List.getElem?_nil, List.set_cons_zero, List.set_cons_succ, List.map_cons, List.map_nil, List.length_cons, List.length_nil, List.replicate_succ, List.replicate_zero, List.cons_append, List.nil_append, Option.bind_some, Option.bind_none, List.all_cons, List.all_nil, List.append_nil, Nat.reduceAdd, Nat.reduceSub, true_and, and_true, Bool.and_true, Bool.true_and]
      refine ix_lst ⟨_, at_nat e2, ?_⟩
      simp only [dSeq, dIfS, dT, dTn, dTa, dTo, dOp, dVar, dC, dFz_eq, dCB, dCons, dNil, dCall, dCallB, dMeth, dMethB, dSet, dApp, dExt, dRet, dRetM, dNx, dDrop, dNeg, dAnd, dOr, dNot, dIf, dCh, dCh3, dU, dTup, dLst, dFld, dIsi, dIl, dIe, dIr1, dIr2, dIv1, dgN, dgT, putAll, dFor, dPar2, dPar3, dSetT, dLc, dYes, dSl, dNo, dSome, dRev, dNev, dSset, dCount, dIndex, dLrg1, dLrg2, dTwo, un_non, un_int, un_bl, un_str, un_lst, un_tup, un_obj, un_dct, un_scr, un_olst, un_oll, un_oobj, un_mv, un_m, un_p, pl_non, pl_int, pl_bl, pl_str, pl_lst, pl_tup, pl_obj, pl_dct, pl_scr, pl_m, pl_p, fzm_non, fzm_int, fzm_bl, fzm_lst, fzm_tup, fzm_obj, fzm_scr, fzm_olst, fzm_oll, fzm_oobj, fzm_m, frz_non, frz_int, frz_bl, frz_str, frz_lst, frz_tup, frz_obj, frz_dct, frz_scr, frz_olst, frz_oll, frz_m, fz_no, fz_tr, see_no, see_tr, asB_bl, asI_int, asgD_non, asgD_int, asgD_bl, asgD_lst, asgD_tup, asgD_obj, asgD_mv, asgD_m, it_lst, it_olst, it_scr, li_lst, li_olst, pit_lst, pit_scr, sz_lst, sz_olst, sz_oll, sz_scr, sz_tup, ad_int, ad_ll, ad_oo, ad_lo, ad_ol, mu_int, mu_l, mu_o, gI_int, gI0_int, gI2_int, ii_eqv, co_int, co_bl, co_non, co_row, co_rowO, co_nil, co_nilO, co_ps, co_p, co_p2, co_rows, ev_ll, ev_ol, ev_lo, ev_oo, ev_ln, ev_lno, ev_on, ev_ono, in_ps, in_row, gEq, gNe, gIn, gNotIn, g1, g2, gLen, gList, δof, List.getElem?_cons_zero, List.getElem?_cons_succ, List.getElem?_nil, List.set_cons_zero, List.set_cons_succ, List.map_cons, List.map_nil, List.length_cons, List.length_nil, List.replicate_succ, List.replicate_zero, List.cons_append, List.nil_append, Option.bind_some, Option.bind_none, List.all_cons, List.all_nil, List.append_nil, Nat.reduceAdd, Nat.reduceSub, true_and, and_true, Bool.and_true, Bool.true_and]
      refine ⟨ps, a, b, rfl, ?_⟩
      cases hm : mnd ps a b with
      | false => exact rest
      | true =>
        simp only [dSeq, dIfS, dT, dTn, dTa, dTo, dOp, dVar, dC, dFz_eq, dCB, dCons, dNil, dCall, dCallB, dMeth, dMethB, dSet, dApp, dExt, dRet, dRetM, dNx, dDrop, dNeg, dAnd, dOr, dNot, dIf, dCh, dCh3, dU, dTup, dLst, dFld, dIsi, dIl, dIe, dIr1, dIr2, dIv1, dgN, dgT, putAll, dFor, dPar2, dPar3, dSetT, dLc, dYes, dSl, dNo, dSome, dRev, dNev, dSset, dCount, dIndex, dLrg1, dLrg2, dTwo, un_non, un_int, un_bl, un_str, un_lst, un_tup, un_obj, un_dct, un_scr, un_olst, un_oll, un_oobj, un_mv, un_m, un_p, pl_non, pl_int, pl_bl, pl_str, pl_lst, pl_tup, pl_obj, pl_dct, pl_scr, pl_m, pl_p, fzm_non, fzm_int, fzm_bl, fzm_lst, fzm_tup, fzm_obj, fzm_scr, fzm_olst, fzm_oll, fzm_oobj, fzm_m, frz_non, frz_int, frz_bl, frz_str, frz_lst, frz_tup, frz_obj, frz_dct, frz_scr, frz_olst, frz_oll, frz_m, fz_no, fz_tr, see_no, see_tr, asB_bl, asI_int, asgD_non, asgD_int, asgD_bl, asgD_lst, asgD_tup, asgD_obj, asgD_mv, asgD_m, it_lst, it_olst, it_scr, li_lst, li_olst, pit_lst, pit_scr, sz_lst, sz_olst, sz_oll, sz_scr, sz_tup, ad_int, ad_ll, ad_oo, ad_lo, ad_ol, mu_int, mu_l, mu_o, gI_int, gI0_int, gI2_int, ii_eqv, co_int, co_bl, co_non, co_row, co_rowO, co_nil, co_nilO, co_ps, co_p, co_p2, co_rows, ev_ll, ev_ol, ev_lo, ev_oo, ev_ln, ev_lno, ev_on, ev_ono, in_ps, in_row, gEq, gNe, gIn, gNotIn, g1, g2, gLen, gList, δof, List.getElem?_cons_zero, List.getElem?_cons_succ, List.getElem?_nil, List.set_cons_zero, List.set_cons_succ, List.map_cons, List.map_nil, List.length_cons, List.length_nil, List.replicate_succ, List.replicate_zero, List.cons_append, List.nil_append, Option.bind_some, Option.bind_none, List.all_cons, List.all_nil, List.append_nil, Nat.reduceAdd, Nat.reduceSub, true_and, and_true, Bool.and_true, Bool.true_and, dSwap]
        refine ix_lst ⟨_, at_nat e2, ?_⟩
        simp only [dSeq, dIfS, dT, dTn, dTa, dTo, dOp, dVar, dC, dFz_eq, dCB, dCons, dNil, dCall, dCallB, dMeth, dMethB, dSet, dApp, dExt, dRet, dRetM, dNx, dDrop, dNeg, dAnd, dOr, dNot, dIf, dCh, dCh3, dU, dTup, dLst, dFld, dIsi, dIl, dIe, dIr1, dIr2, dIv1, dgN, dgT, putAll, dFor, dPar2, dPar3, dSetT, dLc, dYes, dSl, dNo, dSome, dRev, dNev, dSset, dCount, dIndex, dLrg1, dLrg2, dTwo, un_non, un_int, un_bl, un_str, un_lst, un_tup, un_obj, un_dct, un_scr, un_olst, un_oll, un_oobj, un_mv, un_m, un_p, pl_non, pl_int, pl_bl, pl_str, pl_lst, pl_tup, pl_obj, pl_dct, pl_scr, pl_m, pl_p, fzm_non, fzm_int, fzm_bl, fzm_lst, fzm_tup, fzm_obj, fzm_scr, fzm_olst, fzm_oll, fzm_oobj, fzm_m, frz_non, frz_int, frz_bl, frz_str, frz_lst, frz_tup, frz_obj, frz_dct, frz_scr, frz_olst, frz_oll, frz_m, fz_no, fz_tr, see_no, see_tr, asB_bl, asI_int, asgD_non, asgD_int, asgD_bl, asgD_lst, asgD_tup, asgD_obj, asgD_mv, asgD_m, it_lst, it_olst, it_scr, li_lst, li_olst, pit_lst, pit_scr, sz_lst, sz_olst, sz_oll, sz_scr, sz_tup, ad_int, ad_ll, ad_oo, ad_lo, ad_ol, mu_int, mu_l, mu_o, gI_int, gI0_int, gI2_int, ii_eqv, co_int, co_bl, co_non, co_row, co_rowO, co_nil, co_nilO, co_ps, co_p, co_p2, co_rows, ev_ll, ev_ol, ev_lo, ev_oo, ev_ln, ev_lno, ev_on, ev_ono, in_ps, in_row, gEq, gNe, gIn, gNotIn, g1, g2, gLen, gList, δof, List.getElem?_cons_zero, List.getElem?_cons_succ, List.getElem?_nil, List.set_cons_zero, List.set_cons_succ, List.map_cons, List.map_nil, List.length_cons, List.length_nil, List.replicate_succ, List.replicate_zero, List.cons_append, List.nil_append, Option.bind_some, Option.bind_none, List.all_cons, List.all_nil, List.append_nil, Nat.reduceAdd, Nat.reduceSub, true_and, and_true, Bool.and_true, Bool.true_and]
        refine ix_lst ⟨_, at_nat e1, ?_⟩
        simp only [dSeq, dIfS, dT, dTn, dTa, dTo, dOp, dVar, dC, dFz_eq, dCB, dCons, dNil, dCall, dCallB, dMeth, dMethB, dSet, dApp, dExt, dRet, dRetM, dNx, dDrop, dNeg, dAnd, dOr, dNot, dIf, dCh, dCh3, dU, dTup, dLst, dFld, dIsi, dIl, dIe, dIr1, dIr2, dIv1, dgN, dgT, putAll, dFor, dPar2, dPar3, dSetT, dLc, dYes, dSl, dNo, dSome, dRev, dNev, dSset, dCount, dIndex, dLrg1, dLrg2, dTwo, un_non, un_int, un_bl, un_str, un_lst, un_tup, un_obj, un_dct, un_scr, un_olst, un_oll, un_oobj, un_mv, un_m, un_p, pl_non, pl_int, pl_bl, pl_str, pl_lst, pl_tup, pl_obj, pl_dct, pl_scr, pl_m, pl_p, fzm_non, fzm_int, fzm_bl, fzm_lst, fzm_tup, fzm_obj, fzm_scr, fzm_olst, fzm_oll, fzm_oobj, fzm_m, frz_non, frz_int, frz_bl, frz_str, frz_lst, frz_tup, frz_obj, frz_dct, frz_scr, frz_olst, frz_oll, frz_m, fz_no, fz_tr, see_no, see_tr, asB_bl, asI_int, asgD_non, asgD_int, asgD_bl, asgD_lst, asgD_tup, asgD_obj, asgD_mv, asgD_m, it_lst, it_olst, it_scr, li_lst, li_olst, pit_lst, pit_scr, sz_lst, sz_olst, sz_oll, sz_scr, sz_tup, ad_int, ad_ll, ad_oo, ad_lo, ad_ol, mu_int, mu_l, mu_o, gI_int, gI0_int, gI2_int, ii_eqv, co_int, co_bl, co_non, co_row, co_rowO, co_nil, co_nilO, co_ps, co_p, co_p2, co_rows, ev_ll, ev_ol, ev_lo, ev_oo, ev_ln, ev_lno, ev_on, ev_ono, in_ps, in_row, gEq, gNe, gIn, gNotIn, g1, g2, gLen, gList, δof, List.getElem?_cons_zero, List.getElem?_cons_succ, List.getElem?_nil, List.set_cons_zero, List.set_cons_succ, List.map_cons, List.map_nil, List.length_cons, List.length_nil, List.replicate_succ, List.replicate_zero, List.cons_append, List.nil_append, Option.bind_some, Option.bind_none, List.all_cons, List.all_nil, List.append_nil, Nat.reduceAdd, Nat.reduceSub, true_and, and_true, Bool.and_true, Bool.true_and, setAt, q]
        refine ⟨by decide, ?_⟩
        have lA : A.length + 1 < xs.length := by
          rw [ex, List.length_append, List.length_cons, List.length_cons]
          omega
        rw [ixN_nat (by rw [List.length_map]; omega)]
        simp only [dSeq, dIfS, dT, dTn, dTa, dTo, dOp, dVar, dC, dFz_eq, dCB, dCons, dNil, dCall, dCallB, dMeth, dMethB, dSet, dApp, dExt, dRet, dRetM, dNx, dDrop, dNeg, dAnd, dOr, dNot, dIf, dCh, dCh3, dU, dTup, dLst, dFld, dIsi, dIl, dIe, dIr1, dIr2, dIv1, dgN, dgT, putAll, dFor, dPar2, dPar3, dSetT, dLc, dYes, dSl, dNo, dSome, dRev, dNev, dSset, dCount, dIndex, dLrg1, dLrg2, dTwo, un_non, un_int, un_bl, un_str, un_lst, un_tup, un_obj, un_dct, un_scr, un_olst, un_oll, un_oobj, un_mv, un_m, un_p, pl_non, pl_int, pl_bl, pl_str, pl_lst, pl_tup, pl_obj, pl_dct, pl_scr, pl_m, pl_p, fzm_non, fzm_int, fzm_bl, fzm_lst, fzm_tup, fzm_obj, fzm_scr, fzm_olst, fzm_oll, fzm_oobj, fzm_m, frz_non, frz_int, frz_bl, frz_str, frz_lst, frz_tup, frz_obj, frz_dct, frz_scr, frz_olst, frz_oll, frz_m, fz_no, fz_tr, see_no, see_tr, asB_bl, asI_int, asgD_non, asgD_int, asgD_bl, asgD_lst, asgD_tup, asgD_obj, asgD_mv, asgD_m, it_lst, it_olst, it_scr, li_lst, li_olst, pit_lst, pit_scr, sz_lst, sz_olst, sz_oll, sz_scr, sz_tup, ad_int, ad_ll, ad_oo, ad_lo, ad_ol, mu_int, mu_l, mu_o, gI_int, gI0_int, gI2_int, ii_eqv, co_int, co_bl, co_non, co_row, co_rowO, co_nil, co_nilO, co_ps, co_p, co_p2, co_rows, ev_ll, ev_ol, ev_lo, ev_oo, ev_ln, ev_lno, ev_on, ev_ono, in_ps, in_row, gEq, gNe, gIn, gNotIn, g1, g2, gLen, gList, δof, List.getElem?_cons_zero, List.getElem?_cons_succ, List.getElem?_nil, List.set_cons_zero, List.set_cons_succ, List.map_cons, List.map_nil, List.length_cons, List.length_nil, List.replicate_succ, List.replicate_zero, List.cons_append, List.nil_append, Option.bind_some, Option.bind_none, List.all_cons, List.all_nil, List.append_nil, Nat.reduceAdd, Nat.reduceSub, true_and, and_true, Bool.and_true, Bool.true_and]
        rw [ixN_nat (by rw [List.length_set, List.length_map]; omega)]
        simp only [dSeq, dIfS, dT, dTn, dTa, dTo, dOp, dVar, dC, dFz_eq, dCB, dCons, dNil, dCall, dCallB, dMeth, dMethB, dSet, dApp, dExt, dRet, dRetM, dNx, dDrop, dNeg, dAnd, dOr, dNot, dIf, dCh, dCh3, dU, dTup, dLst, dFld, dIsi, dIl, dIe, dIr1, dIr2, dIv1, dgN, dgT, putAll, dFor, dPar2, dPar3, dSetT, dLc, dYes, dSl, dNo, dSome, dRev, dNev, dSset, dCount, dIndex, dLrg1, dLrg2, dTwo, un_non, un_int, un_bl, un_str, un_lst, un_tup, un_obj, un_dct, un_scr, un_olst, un_oll, un_oobj, un_mv, un_m, un_p, pl_non, pl_int, pl_bl, pl_str, pl_lst, pl_tup, pl_obj, pl_dct, pl_scr, pl_m, pl_p, fzm_non, fzm_int, fzm_bl, fzm_lst, fzm_tup, fzm_obj, fzm_scr, fzm_olst, fzm_oll, fzm_oobj, fzm_m, frz_non, frz_int, frz_bl, frz_str, frz_lst, frz_tup, frz_obj, frz_dct, frz_scr, frz_olst, frz_oll, frz_m, fz_no, fz_tr, see_no, see_tr, asB_bl, asI_int, asgD_non, asgD_int, asgD_bl, asgD_lst, asgD_tup, asgD_obj, asgD_mv, asgD_m, it_lst, it_olst, it_scr, li_lst, li_olst, pit_lst, pit_scr, sz_lst, sz_olst, sz_oll, sz_scr, sz_tup, ad_int, ad_ll, ad_oo, ad_lo, ad_ol, mu_int, mu_l, mu_o, gI_int, gI0_int, gI2_int, ii_eqv, co_int, co_bl, co_non, co_row, co_rowO, co_nil, co_nilO, co_ps, co_p, co_p2, co_rows, ev_ll, ev_ol, ev_lo, ev_oo, ev_ln, ev_lno, ev_on, ev_ono, in_ps, in_row, gEq, gNe, gIn, gNotIn, g1, g2, gLen, gList, δof, List.getElem?_cons_zero, List.getElem?_cons_succ, List.getElem?_nil, List.set_cons_zero, List.set_cons_succ, List.map_cons, List.map_nil, List.length_cons, List.length_nil, List.replicate_succ, List.replicate_zero, List.cons_append, List.nil_append, Option.bind_some, Option.bind_none, List.all_cons, List.all_nil, List.append_nil, Nat.reduceAdd, Nat.reduceSub, true_and, and_true, Bool.and_true, Bool.true_and]
        have z := h (A ++ b :: a :: B) (by rw [ex]; exact List.Perm.append_left _ (List.Perm.swap _ _ _))
        rw [← swap_mid, ← ex, List.map_set, List.map_set] at z
        exact z
theorem rd_law_crossed {K : PySem.W.Frag} : ∀ ds Q, G_law_crossed K ds Q → T_law_crossed K { nx := fun _ => Q .non, rt := Q } (δof N_law_crossed.length ds) := by
  rintro _ Q ⟨xs, ps, d, cs, rfl, hd, ⟨h2, h3, h4⟩, hl, h⟩
  simp only [T_law_crossed, rD, dSeq, dIfS, dT, dTn, dTa, dTo, dOp, dVar, dC, dFz_eq, dCB, dCons, dNil, dCall, dCallB, dMeth, dMethB, dSet, dApp, dExt, dRet, dRetM, dNx, dDrop, dNeg, dAnd, dOr, dNot, dIf, dCh, dCh3, dU, dTup, dLst, dFld, dIsi, dIl, dIe, dIr1, dIr2, dIv1, dgN, dgT, putAll, dFor, dPar2, dPar3, dSetT, dLc, dYes, dSl, dNo, dSome, dRev, dNev, dSset, dCount, dIndex, dLrg1, dLrg2, dTwo, un_non, un_int, un_bl, un_str, un_lst, un_tup, un_obj, un_dct, un_scr, un_olst, un_oll, un_oobj, un_mv, un_m, un_p, pl_non, pl_int, pl_bl, pl_str, pl_lst, pl_tup, pl_obj, pl_dct, pl_scr, pl_m, pl_p, fzm_non, fzm_int, fzm_bl, fzm_lst, fzm_tup, fzm_obj, fzm_scr, fzm_olst, fzm_oll, fzm_oobj, fzm_m, frz_non, frz_int, frz_bl, frz_str, frz_lst, frz_tup, frz_obj, frz_dct, frz_scr, frz_olst, frz_oll, frz_m, fz_no, fz_tr, see_no, see_tr, asB_bl, asI_int, asgD_non, asgD_int, asgD_bl, asgD_lst, asgD_tup, asgD_obj, asgD_mv, asgD_m, it_lst, it_olst, it_scr, li_lst, li_olst, pit_lst, pit_scr, sz_lst, sz_olst, sz_oll, sz_scr, sz_tup, ad_int, ad_ll, ad_oo, ad_lo, ad_ol, mu_int, mu_l, mu_o, gI_int, gI0_int, gI2_int, ii_eqv, co_int, co_bl, co_non, co_row, co_rowO, co_nil, co_nilO, co_ps, co_p, co_p2, co_rows, ev_ll, ev_ol, ev_lo, ev_oo, ev_ln, ev_lno, ev_on, ev_ono, in_ps, in_row, gEq, gNe, gIn, gNotIn, g1, g2, gLen, gList, δof, List.getElem?_cons_zero, List.getElem?_cons_succ, List.getElem?_nil, List.set_cons_zero, List.set_cons_succ, List.map_cons, List.map_nil, List.length_cons, List.length_nil, List.replicate_succ, List.replicate_zero, List.cons_append, List.nil_append, Option.bind_some, Option.bind_none, List.all_cons, List.all_nil, List.append_nil, Nat.reduceAdd, Nat.reduceSub, true_and, and_true, Bool.and_true, Bool.true_and]
  rw [List.length_map]
  refine ⟨by omega, by omega, ?_⟩
  rw [rng_map]
  refine crossed_f (K := K) hd hl h3 (fun ys p => h ys p) (fun e4 e5 => ?_) _ (fun k hk => ?_) _ _
  · simp only [dSeq, dIfS, dT, dTn, dTa, dTo, dOp, dVar, dC, dFz_eq, dCB, dCons, dNil, dCall, dCallB, dMeth, dMethB, dSet, dApp, dExt, dRet, dRetM, dNx, dDrop, dNeg, dAnd, dOr, dNot, dIf, dCh, dCh3, dU, dTup, dLst, dFld, dIsi, dIl, dIe, dIr1, dIr2, dIv1, dgN, dgT, putAll, dFor, dPar2, dPar3, dSetT, dLc, dYes, dSl, dNo, dSome, dRev, dNev, dSset, dCount, dIndex, dLrg1, dLrg2, dTwo, un_non, un_int, un_bl, un_str, un_lst, un_tup, un_obj, un_dct, un_scr, un_olst, un_oll, un_oobj, un_mv, un_m, un_p, pl_non, pl_int, pl_bl, pl_str, pl_lst, pl_tup, pl_obj, pl_dct, pl_scr, pl_m, pl_p, fzm_non, fzm_int, fzm_bl, fzm_lst, fzm_tup, fzm_obj, fzm_scr, fzm_olst, fzm_oll, fzm_oobj, fzm_m, frz_non, frz_int, frz_bl, frz_str, frz_lst, frz_tup, frz_obj, frz_dct, frz_scr, frz_olst, frz_oll, frz_m, fz_no, fz_tr, see_no, see_tr, asB_bl, asI_int, asgD_non, asgD_int, asgD_bl, asgD_lst, asgD_tup, asgD_obj, asgD_mv, asgD_m, it_lst, it_olst, it_scr, li_lst, li_olst, pit_lst, pit_scr, sz_lst, sz_olst, sz_oll, sz_scr, sz_tup, ad_int, ad_ll, ad_oo, ad_lo, ad_ol, mu_int, mu_l, mu_o, gI_int, gI0_int, gI2_int, ii_eqv, co_int, co_bl, co_non, co_row, co_rowO, co_nil, co_nilO, co_ps, co_p, co_p2, co_rows, ev_ll, ev_ol, ev_lo, ev_oo, ev_ln, ev_lno, ev_on, ev_ono, in_ps, in_row, gEq, gNe, gIn, gNotIn, g1, g2, gLen, gList, δof, List.getElem?_cons_zero, List.getElem?_cons_succ, List.getElem?_nil, List.set_cons_zero, List.set_cons_succ, List.map_cons, List.map_nil, List.length_cons, List.length_nil, List.replicate_succ, List.replicate_zero, List.cons_append, List.nil_append, Option.bind_some, Option.bind_none, List.all_cons, List.all_nil, List.append_nil, Nat.reduceAdd, Nat.reduceSub, true_and, and_true, Bool.and_true, Bool.true_and]
    exact h xs (.refl _)
  · have := rng_mem hk
    omega
def G_law_part (_K : PySem.W.Frag) : GD := fun ds P => ∃ xs a b, ds = [rD xs, .int a, .int b] ∧ xs.length ≤ 1000 ∧ P (.mv (.olst ((prt a b xs).map .int)))
/-! ### law_part -/
abbrev N_law_part : List Str := ["_law_row_here", "_law_one", "_law_other", "_law_kind"]
def T_law_part_c1 (K : PySem.W.Frag) : DE := (dVar 3)
def T_law_part_c1t (K : PySem.W.Frag) : DT := (dTo (dT (dOp gEq (dVar 3) (dVar 1))) (dT (dOp gEq (dVar 3) (dVar 2))))
def T_law_part (K : PySem.W.Frag) : DS := (dRet (dLc 3 (dIl (dVar 0)) (T_law_part_c1t K) (T_law_part_c1 K)))
theorem rd_law_part {K : PySem.W.Frag} : ∀ ds Q, G_law_part K ds Q → T_law_part K { nx := fun _ => Q .non, rt := Q } (δof N_law_part.length ds) := by
  rintro _ Q ⟨xs, a, b, rfl, hl, h⟩
  simp only [T_law_part, rD, dSeq, dIfS, dT, dTn, dTa, dTo, dOp, dVar, dC, dFz_eq, dCB, dCons, dNil, dCall, dCallB, dMeth, dMethB, dSet, dApp, dExt, dRet, dRetM, dNx, dDrop, dNeg, dAnd, dOr, dNot, dIf, dCh, dCh3, dU, dTup, dLst, dFld, dIsi, dIl, dIe, dIr1, dIr2, dIv1, dgN, dgT, putAll, dFor, dPar2, dPar3, dSetT, dLc, dYes, dSl, dNo, dSome, dRev, dNev, dSset, dCount, dIndex, dLrg1, dLrg2, dTwo, un_non, un_int, un_bl, un_str, un_lst, un_tup, un_obj, un_dct, un_scr, un_olst, un_oll, un_oobj, un_mv, un_m, un_p, pl_non, pl_int, pl_bl, pl_str, pl_lst, pl_tup, pl_obj, pl_dct, pl_scr, pl_m, pl_p, fzm_non, fzm_int, fzm_bl, fzm_lst, fzm_tup, fzm_obj, fzm_scr, fzm_olst, fzm_oll, fzm_oobj, fzm_m, frz_non, frz_int, frz_bl, frz_str, frz_lst, frz_tup, frz_obj, frz_dct, frz_scr, frz_olst, frz_oll, frz_m, fz_no, fz_tr, see_no, see_tr, asB_bl, asI_int, asgD_non, asgD_int, asgD_bl, asgD_lst, asgD_tup, asgD_obj, asgD_mv, asgD_m, it_lst, it_olst, it_scr, li_lst, li_olst, pit_lst, pit_scr, sz_lst, sz_olst, sz_oll, sz_scr, sz_tup, ad_int, ad_ll, ad_oo, ad_lo, ad_ol, mu_int, mu_l, mu_o, gI_int, gI0_int, gI2_int, ii_eqv, co_int, co_bl, co_non, co_row, co_rowO, co_nil, co_nilO, co_ps, co_p, co_p2, co_rows, ev_ll, ev_ol, ev_lo, ev_oo, ev_ln, ev_lno, ev_on, ev_ono, in_ps, in_row, gEq, gNe, gIn, gNotIn, g1, g2, gLen, gList, δof, List.getElem?_cons_zero, List.getElem?_cons_succ, List.getElem?_nil, List.set_cons_zero, List.set_cons_succ, List.map_cons, List.map_nil, List.length_cons, List.length_nil, List.replicate_succ, List.replicate_zero, List.cons_append, List.nil_append, Option.bind_some, Option.bind_none, List.all_cons, List.all_nil, List.append_nil, Nat.reduceAdd, Nat.reduceSub, true_and, and_true, Bool.and_true, Bool.true_and]
  refine cg (p := fun k => decide (k = a) || decide (k = b)) (f := D.int) xs (fun x _ R hR => ?_) (fun x _ R hR => ?_) (fun _ => rfl) [] (by rw [List.length_nil]; omega) h
  · simp only [T_law_part_c1t, dSeq, dIfS, dT, dTn, dTa, dTo, dOp, dVar, dC, dFz_eq, dCB, dCons, dNil, dCall, dCallB, dMeth, dMethB, dSet, dApp, dExt, dRet, dRetM, dNx, dDrop, dNeg, dAnd, dOr, dNot, dIf, dCh, dCh3, dU, dTup, dLst, dFld, dIsi, dIl, dIe, dIr1, dIr2, dIv1, dgN, dgT, putAll, dFor, dPar2, dPar3, dSetT, dLc, dYes, dSl, dNo, dSome, dRev, dNev, dSset, dCount, dIndex, dLrg1, dLrg2, dTwo, un_non, un_int, un_bl, un_str, un_lst, un_tup, un_obj, un_dct, un_scr, un_olst, un_oll, un_oobj, un_mv, un_m, un_p, pl_non, pl_int, pl_bl, pl_str, pl_lst, pl_tup, pl_obj, pl_dct, pl_scr, pl_m, pl_p, fzm_non, fzm_int, fzm_bl, fzm_lst, fzm_tup, fzm_obj, fzm_scr, fzm_olst, fzm_oll, fzm_oobj, fzm_m, frz_non, frz_int, frz_bl, frz_str, frz_lst, frz_tup, frz_obj, frz_dct, frz_scr, frz_olst, frz_oll, frz_m, fz_no, fz_tr, see_no, see_tr, asB_bl, asI_int, asgD_non, asgD_int, asgD_bl, asgD_lst, asgD_tup, asgD_obj, asgD_mv, asgD_m, it_lst, it_olst, it_scr, li_lst, li_olst, pit_lst, pit_scr, sz_lst, sz_olst, sz_oll, sz_scr, sz_tup, ad_int, ad_ll, ad_oo, ad_lo, ad_ol, mu_int, mu_l, mu_o, gI_int, gI0_int, gI2_int, ii_eqv, co_int, co_bl, co_non, co_row, co_rowO, co_nil, co_nilO, co_ps, co_p, co_p2, co_rows, ev_ll, ev_ol, ev_lo, ev_oo, ev_ln, ev_lno, ev_on, ev_ono, in_ps, in_row, gEq, gNe, gIn, gNotIn, g1, g2, gLen, gList, δof, List.getElem?_cons_zero, List.getElem?_cons_succ, List.getElem?_nil, List.set_cons_zero, List.set_cons_succ, List.map_cons, List.map_nil, List.length_cons, List.length_nil, List.replicate_succ, List.replicate_zero, List.cons_append, List.nil_append, Option.bind_some, Option.bind_none, List.all_cons, List.all_nil, List.append_nil, Nat.reduceAdd, Nat.reduceSub, true_and, and_true, Bool.and_true, Bool.true_and]
    by_cases e : x = a
    · rw [decide_eq_true e] at hR ⊢
      exact hR
    · rw [decide_eq_false e] at hR ⊢
      rw [Bool.false_or] at hR
      exact hR
  · simp only [T_law_part_c1, dSeq, dIfS, dT, dTn, dTa, dTo, dOp, dVar, dC, dFz_eq, dCB, dCons, dNil, dCall, dCallB, dMeth, dMethB, dSet, dApp, dExt, dRet, dRetM, dNx, dDrop, dNeg, dAnd, dOr, dNot, dIf, dCh, dCh3, dU, dTup, dLst, dFld, dIsi, dIl, dIe, dIr1, dIr2, dIv1, dgN, dgT, putAll, dFor, dPar2, dPar3, dSetT, dLc, dYes, dSl, dNo, dSome, dRev, dNev, dSset, dCount, dIndex, dLrg1, dLrg2, dTwo, un_non, un_int, un_bl, un_str, un_lst, un_tup, un_obj, un_dct, un_scr, un_olst, un_oll, un_oobj, un_mv, un_m, un_p, pl_non, pl_int, pl_bl, pl_str, pl_lst, pl_tup, pl_obj, pl_dct, pl_scr, pl_m, pl_p, fzm_non, fzm_int, fzm_bl, fzm_lst, fzm_tup, fzm_obj, fzm_scr, fzm_olst, fzm_oll, fzm_oobj, fzm_m, frz_non, frz_int, frz_bl, frz_str, frz_lst, frz_tup, frz_obj, frz_dct, frz_scr, frz_olst, frz_oll, frz_m, fz_no, fz_tr, see_no, see_tr, asB_bl, asI_int, asgD_non, asgD_int, asgD_bl, asgD_lst, asgD_tup, asgD_obj, asgD_mv, asgD_m, it_lst, it_olst, it_scr, li_lst, li_olst, pit_lst, pit_scr, sz_lst, sz_olst, sz_oll, sz_scr, sz_tup, ad_int, ad_ll, ad_oo, ad_lo, ad_ol, mu_int, mu_l, mu_o, gI_int, gI0_int, gI2_int, ii_eqv, co_int, co_bl, co_non, co_row, co_rowO, co_nil, co_nilO, co_ps, co_p, co_p2, co_rows, ev_ll, ev_ol, ev_lo, ev_oo, ev_ln, ev_lno, ev_on, ev_ono, in_ps, in_row, gEq, gNe, gIn, gNotIn, g1, g2, gLen, gList, δof, List.getElem?_cons_zero, List.getElem?_cons_succ, List.getElem?_nil, List.set_cons_zero, List.set_cons_succ, List.map_cons, List.map_nil, List.length_cons, List.length_nil, List.replicate_succ, List.replicate_zero, List.cons_append, List.nil_append, Option.bind_some, Option.bind_none, List.all_cons, List.all_nil, List.append_nil, Nat.reduceAdd, Nat.reduceSub, true_and, and_true, Bool.and_true, Bool.true_and]
    exact hR
/-- a couple of kinds that mind each other, the lesser first -/
def cpB (n : Int) (ps : List (Int × Int)) (a b : Int) : Bool := kB n a && kB n b && (decide (a = b) || decide ((a, b) ∈ ps))
def G_law_couple (_K : PySem.W.Frag) : GD := fun ds P => ∃ n ps a b, ds = [.int n, .lst (ps.map pD), .int a, .int b] ∧ P (.bl (cpB n ps a b))
/-! ### law_couple -/
abbrev N_law_couple : List Str := ["_law_kinds", "_law_pairs", "_law_one", "_law_other", "_law_kind"]
def T_law_couple_f1 (K : PySem.W.Frag) : DS := (dIfS (dTo (dT (dIsi K (.type "bool") (dVar 4))) (dTo (dTn (dT (dIsi K (.type "int") (dVar 4)))) (dTn (dT (dCh gLe gLt (dC (.int 0)) (dVar 4) (dVar 0)))))) (dRet (dC (.bl false))) dNx)
def T_law_couple (K : PySem.W.Frag) : DS := (dSeq (dFor (dIl (dFz (dLst (dCons (dVar 2) (dCons (dVar 3) dNil))))) (dgN 4) (T_law_couple_f1 K))
  (dRet (dOr (dOp gEq (dVar 2) (dVar 3)) (dOp gIn (dTup (dCons (dVar 2) (dCons (dVar 3) dNil))) (dVar 1)))))
theorem couple_st {K : PySem.W.Frag} {n : Int} {d1 d2 d3 : D} {k : Int} {E : EndsD} (h1 : kB n k = false → E.rt (.bl false)) (h2 : kB n k = true → E.nx [.tr (.int n), .tr d1, .tr d2, .tr d3, .tr (.int k)]) : T_law_couple_f1 K E [.tr (.int n), .tr d1, .tr d2, .tr d3, .tr (.int k)] := by
  simp only [T_law_couple_f1, dSeq, dIfS, dT, dTn, dTa, dTo, dOp, dVar, dC, dFz_eq, dCB, dCons, dNil, dCall, dCallB, dMeth, dMethB, dSet, dApp, dExt, dRet, dRetM, dNx, dDrop, dNeg, dAnd, dOr, dNot, dIf, dCh, dCh3, dU, dTup, dLst, dFld, dIsi, dIl, dIe, dIr1, dIr2, dIv1, dgN, dgT, putAll, dFor, dPar2, dPar3, dSetT, dLc, dYes, dSl, dNo, dSome, dRev, dNev, dSset, dCount, dIndex, dLrg1, dLrg2, dTwo, un_non, un_int, un_bl, un_str, un_lst, un_tup, un_obj, un_dct, un_scr, un_olst, un_oll, un_oobj, un_mv, un_m, un_p, pl_non, pl_int, pl_bl, pl_str, pl_lst, pl_tup, pl_obj, pl_dct, pl_scr, pl_m, pl_p, fzm_non, fzm_int, fzm_bl, fzm_lst, fzm_tup, fzm_obj, fzm_scr, fzm_olst, fzm_oll, fzm_oobj, fzm_m, frz_non, frz_int, frz_bl, frz_str, frz_lst, frz_tup, frz_obj, frz_dct, frz_scr, frz_olst, frz_oll, frz_m, fz_no, fz_tr, see_no, see_tr, asB_bl, asI_int, asgD_non, asgD_int, asgD_bl, asgD_lst, asgD_tup, asgD_obj, asgD_mv, asgD_m, it_lst, it_olst, it_scr, li_lst, li_olst, pit_lst, pit_scr, sz_lst, sz_olst, sz_oll, sz_scr, sz_tup, ad_int, ad_ll, ad_oo, ad_lo, ad_ol, mu_int, mu_l, mu_o, gI_int, gI0_int, gI2_int, ii_eqv, co_int, co_bl, co_non, co_row, co_rowO, co_nil, co_nilO, co_ps, co_p, co_p2, co_rows, ev_ll, ev_ol, ev_lo, ev_oo, ev_ln, ev_lno, ev_on, ev_ono, in_ps, in_row, gEq, gNe, gIn, gNotIn, g1, g2, gLen, gList, δof, List.getElem?_cons_zero, List.getElem?_cons_succ, List.getElem?_nil, List.set_cons_zero, List.set_cons_succ, List.map_cons, List.map_nil, List.length_cons, List.length_nil, List.replicate_succ, List.replicate_zero, List.cons_append, List.nil_append, Option.bind_some, Option.bind_none, List.all_cons, List.all_nil, List.append_nil, Nat.reduceAdd, Nat.reduceSub, true_and, and_true, Bool.and_true, Bool.true_and]
  refine ⟨false, rfl, ?_⟩
  simp only [dSeq, dIfS, dT, dTn, dTa, dTo, dOp, dVar, dC, dFz_eq, dCB, dCons, dNil, dCall, dCallB, dMeth, dMethB, dSet, dApp, dExt, dRet, dRetM, dNx, dDrop, dNeg, dAnd, dOr, dNot, dIf, dCh, dCh3, dU, dTup, dLst, dFld, dIsi, dIl, dIe, dIr1, dIr2, dIv1, dgN, dgT, putAll, dFor, dPar2, dPar3, dSetT, dLc, dYes, dSl, dNo, dSome, dRev, dNev, dSset, dCount, dIndex, dLrg1, dLrg2, dTwo, un_non, un_int, un_bl, un_str, un_lst, un_tup, un_obj, un_dct, un_scr, un_olst, un_oll, un_oobj, un_mv, un_m, un_p, pl_non, pl_int, pl_bl, pl_str, pl_lst, pl_tup, pl_obj, pl_dct, pl_scr, pl_m, pl_p, fzm_non, fzm_int, fzm_bl, fzm_lst, fzm_tup, fzm_obj, fzm_scr, fzm_olst, fzm_oll, fzm_oobj, fzm_m, frz_non, frz_int, frz_bl, frz_str, frz_lst, frz_tup, frz_obj, frz_dct, frz_scr, frz_olst, frz_oll, frz_m, fz_no, fz_tr, see_no, see_tr, asB_bl, asI_int, asgD_non, asgD_int, asgD_bl, asgD_lst, asgD_tup, asgD_obj, asgD_mv, asgD_m, it_lst, it_olst, it_scr, li_lst, li_olst, pit_lst, pit_scr, sz_lst, sz_olst, sz_oll, sz_scr, sz_tup, ad_int, ad_ll, ad_oo, ad_lo, ad_ol, mu_int, mu_l, mu_o, gI_int, gI0_int, gI2_int, ii_eqv, co_int, co_bl, co_non, co_row, co_rowO, co_nil, co_nilO, co_ps, co_p, co_p2, co_rows, ev_ll, ev_ol, ev_lo, ev_oo, ev_ln, ev_lno, ev_on, ev_ono, in_ps, in_row, gEq, gNe, gIn, gNotIn, g1, g2, gLen, gList, δof, List.getElem?_cons_zero, List.getElem?_cons_succ, List.getElem?_nil, List.set_cons_zero, List.set_cons_succ, List.map_cons, List.map_nil, List.length_cons, List.length_nil, List.replicate_succ, List.replicate_zero, List.cons_append, List.nil_append, Option.bind_some, Option.bind_none, List.all_cons, List.all_nil, List.append_nil, Nat.reduceAdd, Nat.reduceSub, true_and, and_true, Bool.and_true, Bool.true_and]
  refine ⟨true, rfl, ?_⟩
  simp only [dSeq, dIfS, dT, dTn, dTa, dTo, dOp, dVar, dC, dFz_eq, dCB, dCons, dNil, dCall, dCallB, dMeth, dMethB, dSet, dApp, dExt, dRet, dRetM, dNx, dDrop, dNeg, dAnd, dOr, dNot, dIf, dCh, dCh3, dU, dTup, dLst, dFld, dIsi, dIl, dIe, dIr1, dIr2, dIv1, dgN, dgT, putAll, dFor, dPar2, dPar3, dSetT, dLc, dYes, dSl, dNo, dSome, dRev, dNev, dSset, dCount, dIndex, dLrg1, dLrg2, dTwo, un_non, un_int, un_bl, un_str, un_lst, un_tup, un_obj, un_dct, un_scr, un_olst, un_oll, un_oobj, un_mv, un_m, un_p, pl_non, pl_int, pl_bl, pl_str, pl_lst, pl_tup, pl_obj, pl_dct, pl_scr, pl_m, pl_p, fzm_non, fzm_int, fzm_bl, fzm_lst, fzm_tup, fzm_obj, fzm_scr, fzm_olst, fzm_oll, fzm_oobj, fzm_m, frz_non, frz_int, frz_bl, frz_str, frz_lst, frz_tup, frz_obj, frz_dct, frz_scr, frz_olst, frz_oll, frz_m, fz_no, fz_tr, see_no, see_tr, asB_bl, asI_int, asgD_non, asgD_int, asgD_bl, asgD_lst, asgD_tup, asgD_obj, asgD_mv, asgD_m, it_lst, it_olst, it_scr, li_lst, li_olst, pit_lst, pit_scr, sz_lst, sz_olst, sz_oll, sz_scr, sz_tup, ad_int, ad_ll, ad_oo, ad_lo, ad_ol, mu_int, mu_l, mu_o, gI_int, gI0_int, gI2_int, ii_eqv, co_int, co_bl, co_non, co_row, co_rowO, co_nil, co_nilO, co_ps, co_p, co_p2, co_rows, ev_ll, ev_ol, ev_lo, ev_oo, ev_ln, ev_lno, ev_on, ev_ono, in_ps, in_row, gEq, gNe, gIn, gNotIn, g1, g2, gLen, gList, δof, List.getElem?_cons_zero, List.getElem?_cons_succ, List.getElem?_nil, List.set_cons_zero, List.set_cons_succ, List.map_cons, List.map_nil, List.length_cons, List.length_nil, List.replicate_succ, List.replicate_zero, List.cons_append, List.nil_append, Option.bind_some, Option.bind_none, List.all_cons, List.all_nil, List.append_nil, Nat.reduceAdd, Nat.reduceSub, true_and, and_true, Bool.and_true, Bool.true_and, Bool.not_true]
  by_cases c0 : 0 ≤ k
  · rw [decide_eq_true c0]
    simp only [dSeq, dIfS, dT, dTn, dTa, dTo, dOp, dVar, dC, dFz_eq, dCB, dCons, dNil, dCall, dCallB, dMeth, dMethB, dSet, dApp, dExt, dRet, dRetM, dNx, dDrop, dNeg, dAnd, dOr, dNot, dIf, dCh, dCh3, dU, dTup, dLst, dFld, dIsi, dIl, dIe, dIr1, dIr2, dIv1, dgN, dgT, putAll, dFor, dPar2, dPar3, dSetT, dLc, dYes, dSl, dNo, dSome, dRev, dNev, dSset, dCount, dIndex, dLrg1, dLrg2, dTwo, un_non, un_int, un_bl, un_str, un_lst, un_tup, un_obj, un_dct, un_scr, un_olst, un_oll, un_oobj, un_mv, un_m, un_p, pl_non, pl_int, pl_bl, pl_str, pl_lst, pl_tup, pl_obj, pl_dct, pl_scr, pl_m, pl_p, fzm_non, fzm_int, fzm_bl, fzm_lst, fzm_tup, fzm_obj, fzm_scr, fzm_olst, fzm_oll, fzm_oobj, fzm_m, frz_non, frz_int, frz_bl, frz_str, frz_lst, frz_tup, frz_obj, frz_dct, frz_scr, frz_olst, frz_oll, frz_m, fz_no, fz_tr, see_no, see_tr, asB_bl, asI_int, asgD_non, asgD_int, asgD_bl, asgD_lst, asgD_tup, asgD_obj, asgD_mv, asgD_m, it_lst, it_olst, it_scr, li_lst, li_olst, pit_lst, pit_scr, sz_lst, sz_olst, sz_oll, sz_scr, sz_tup, ad_int, ad_ll, ad_oo, ad_lo, ad_ol, mu_int, mu_l, mu_o, gI_int, gI0_int, gI2_int, ii_eqv, co_int, co_bl, co_non, co_row, co_rowO, co_nil, co_nilO, co_ps, co_p, co_p2, co_rows, ev_ll, ev_ol, ev_lo, ev_oo, ev_ln, ev_lno, ev_on, ev_ono, in_ps, in_row, gEq, gNe, gIn, gNotIn, g1, g2, gLen, gList, δof, List.getElem?_cons_zero, List.getElem?_cons_succ, List.getElem?_nil, List.set_cons_zero, List.set_cons_succ, List.map_cons, List.map_nil, List.length_cons, List.length_nil, List.replicate_succ, List.replicate_zero, List.cons_append, List.nil_append, Option.bind_some, Option.bind_none, List.all_cons, List.all_nil, List.append_nil, Nat.reduceAdd, Nat.reduceSub, true_and, and_true, Bool.and_true, Bool.true_and]
    by_cases c1 : k < n
    · rw [decide_eq_true c1]
      exact h2 (decide_eq_true ⟨c0, c1⟩)
    · rw [decide_eq_false c1]
      exact h1 (decide_eq_false fun z => c1 z.2)
  · rw [decide_eq_false c0]
    exact h1 (decide_eq_false fun z => c0 z.1)
theorem rd_law_couple {K : PySem.W.Frag} : ∀ ds Q, G_law_couple K ds Q → T_law_couple K { nx := fun _ => Q .non, rt := Q } (δof N_law_couple.length ds) := by
  rintro _ Q ⟨n, ps, a, b, rfl, h⟩
  simp only [T_law_couple, dSeq, dIfS, dT, dTn, dTa, dTo, dOp, dVar, dC, dFz_eq, dCB, dCons, dNil, dCall, dCallB, dMeth, dMethB, dSet, dApp, dExt, dRet, dRetM, dNx, dDrop, dNeg, dAnd, dOr, dNot, dIf, dCh, dCh3, dU, dTup, dLst, dFld, dIsi, dIl, dIe, dIr1, dIr2, dIv1, dgN, dgT, putAll, dFor, dPar2, dPar3, dSetT, dLc, dYes, dSl, dNo, dSome, dRev, dNev, dSset, dCount, dIndex, dLrg1, dLrg2, dTwo, un_non, un_int, un_bl, un_str, un_lst, un_tup, un_obj, un_dct, un_scr, un_olst, un_oll, un_oobj, un_mv, un_m, un_p, pl_non, pl_int, pl_bl, pl_str, pl_lst, pl_tup, pl_obj, pl_dct, pl_scr, pl_m, pl_p, fzm_non, fzm_int, fzm_bl, fzm_lst, fzm_tup, fzm_obj, fzm_scr, fzm_olst, fzm_oll, fzm_oobj, fzm_m, frz_non, frz_int, frz_bl, frz_str, frz_lst, frz_tup, frz_obj, frz_dct, frz_scr, frz_olst, frz_oll, frz_m, fz_no, fz_tr, see_no, see_tr, asB_bl, asI_int, asgD_non, asgD_int, asgD_bl, asgD_lst, asgD_tup, asgD_obj, asgD_mv, asgD_m, it_lst, it_olst, it_scr, li_lst, li_olst, pit_lst, pit_scr, sz_lst, sz_olst, sz_oll, sz_scr, sz_tup, ad_int, ad_ll, ad_oo, ad_lo, ad_ol, mu_int, mu_l, mu_o, gI_int, gI0_int, gI2_int, ii_eqv, co_int, co_bl, co_non, co_row, co_rowO, co_nil, co_nilO, co_ps, co_p, co_p2, co_rows, ev_ll, ev_ol, ev_lo, ev_oo, ev_ln, ev_lno, ev_on, ev_ono, in_ps, in_row, gEq, gNe, gIn, gNotIn, g1, g2, gLen, gList, δof, List.getElem?_cons_zero, List.getElem?_cons_succ, List.getElem?_nil, List.set_cons_zero, List.set_cons_succ, List.map_cons, List.map_nil, List.length_cons, List.length_nil, List.replicate_succ, List.replicate_zero, List.cons_append, List.nil_append, Option.bind_some, Option.bind_none, List.all_cons, List.all_nil, List.append_nil, Nat.reduceAdd, Nat.reduceSub, true_and, and_true, Bool.and_true, Bool.true_and]
  unfold cpB at h
  refine ⟨by decide, ?_⟩
  refine forGo_op fun N hN => ?_
  simp only [dgN, List.set_cons_succ, List.set_cons_zero]
  refine couple_st (K := K) (fun e => ?_) fun ea => ?_
  · rw [e] at h
    exact h
  · show N _
    rw [hN]
    refine forGo_op fun N2 hN2 => ?_
    simp only [dgN, List.set_cons_succ, List.set_cons_zero]
    refine couple_st (K := K) (fun e => ?_) fun eb => ?_
    · rw [ea, e] at h
      exact h
    · show N2 _
      rw [hN2]
      rw [ea, eb] at h
      simp only [forGo, dSeq, dIfS, dT, dTn, dTa, dTo, dOp, dVar, dC, dFz_eq, dCB, dCons, dNil, dCall, dCallB, dMeth, dMethB, dSet, dApp, dExt, dRet, dRetM, dNx, dDrop, dNeg, dAnd, dOr, dNot, dIf, dCh, dCh3, dU, dTup, dLst, dFld, dIsi, dIl, dIe, dIr1, dIr2, dIv1, dgN, dgT, putAll, dFor, dPar2, dPar3, dSetT, dLc, dYes, dSl, dNo, dSome, dRev, dNev, dSset, dCount, dIndex, dLrg1, dLrg2, dTwo, un_non, un_int, un_bl, un_str, un_lst, un_tup, un_obj, un_dct, un_scr, un_olst, un_oll, un_oobj, un_mv, un_m, un_p, pl_non, pl_int, pl_bl, pl_str, pl_lst, pl_tup, pl_obj, pl_dct, pl_scr, pl_m, pl_p, fzm_non, fzm_int, fzm_bl, fzm_lst, fzm_tup, fzm_obj, fzm_scr, fzm_olst, fzm_oll, fzm_oobj, fzm_m, frz_non, frz_int, frz_bl, frz_str, frz_lst, frz_tup, frz_obj, frz_dct, frz_scr, frz_olst, frz_oll, frz_m, fz_no, fz_tr, see_no, see_tr, asB_bl, asI_int, asgD_non, asgD_int, asgD_bl, asgD_lst, asgD_tup, asgD_obj, asgD_mv, asgD_m, it_lst, it_olst, it_scr, li_lst, li_olst, pit_lst, pit_scr, sz_lst, sz_olst, sz_oll, sz_scr, sz_tup, ad_int, ad_ll, ad_oo, ad_lo, ad_ol, mu_int, mu_l, mu_o, gI_int, gI0_int, gI2_int, ii_eqv, co_int, co_bl, co_non, co_row, co_rowO, co_nil, co_nilO, co_ps, co_p, co_p2, co_rows, ev_ll, ev_ol, ev_lo, ev_oo, ev_ln, ev_lno, ev_on, ev_ono, in_ps, in_row, gEq, gNe, gIn, gNotIn, g1, g2, gLen, gList, δof, List.getElem?_cons_zero, List.getElem?_cons_succ, List.getElem?_nil, List.set_cons_zero, List.set_cons_succ, List.map_cons, List.map_nil, List.length_cons, List.length_nil, List.replicate_succ, List.replicate_zero, List.cons_append, List.nil_append, Option.bind_some, Option.bind_none, List.all_cons, List.all_nil, List.append_nil, Nat.reduceAdd, Nat.reduceSub, true_and, and_true, Bool.and_true, Bool.true_and]
      by_cases c : a = b
      · rw [decide_eq_true c] at h ⊢
        exact h
      · rw [decide_eq_false c] at h ⊢
        simp only [dSeq, dIfS, dT, dTn, dTa, dTo, dOp, dVar, dC, dFz_eq, dCB, dCons, dNil, dCall, dCallB, dMeth, dMethB, dSet, dApp, dExt, dRet, dRetM, dNx, dDrop, dNeg, dAnd, dOr, dNot, dIf, dCh, dCh3, dU, dTup, dLst, dFld, dIsi, dIl, dIe, dIr1, dIr2, dIv1, dgN, dgT, putAll, dFor, dPar2, dPar3, dSetT, dLc, dYes, dSl, dNo, dSome, dRev, dNev, dSset, dCount, dIndex, dLrg1, dLrg2, dTwo, un_non, un_int, un_bl, un_str, un_lst, un_tup, un_obj, un_dct, un_scr, un_olst, un_oll, un_oobj, un_mv, un_m, un_p, pl_non, pl_int, pl_bl, pl_str, pl_lst, pl_tup, pl_obj, pl_dct, pl_scr, pl_m, pl_p, fzm_non, fzm_int, fzm_bl, fzm_lst, fzm_tup, fzm_obj, fzm_scr, fzm_olst, fzm_oll, fzm_oobj, fzm_m, frz_non, frz_int, frz_bl, frz_str, frz_lst, frz_tup, frz_obj, frz_dct, frz_scr, frz_olst, frz_oll, frz_m, fz_no, fz_tr, see_no, see_tr, asB_bl, asI_int, asgD_non, asgD_int, asgD_bl, asgD_lst, asgD_tup, asgD_obj, asgD_mv, asgD_m, it_lst, it_olst, it_scr, li_lst, li_olst, pit_lst, pit_scr, sz_lst, sz_olst, sz_oll, sz_scr, sz_tup, ad_int, ad_ll, ad_oo, ad_lo, ad_ol, mu_int, mu_l, mu_o, gI_int, gI0_int, gI2_int, ii_eqv, co_int, co_bl, co_non, co_row, co_rowO, co_nil, co_nilO, co_ps, co_p, co_p2, co_rows, ev_ll, ev_ol, ev_lo, ev_oo, ev_ln, ev_lno, ev_on, ev_ono, in_ps, in_row, gEq, gNe, gIn, gNotIn, g1, g2, gLen, gList, δof, List.getElem?_cons_zero, List.getElem?_cons_succ, List.getElem?_nil, List.set_cons_zero, List.set_cons_succ, List.map_cons, List.map_nil, List.length_cons, List.length_nil, List.replicate_succ, List.replicate_zero, List.cons_append, List.nil_append, Option.bind_some, Option.bind_none, List.all_cons, List.all_nil, List.append_nil, Nat.reduceAdd, Nat.reduceSub, true_and, and_true, Bool.and_true, Bool.true_and]
        exact ⟨by decide, h⟩
def G_law_is_row (_K : PySem.W.Frag) : GD := fun ds P => ∃ xs n, ds = [rD xs, .int n] ∧ xs.length ≤ 1000 ∧ P (.bl (xs.all (kB n)))
/-! ### law_is_row -/
abbrev N_law_is_row : List Str := ["_law_row_here", "_law_kinds", "_law_kind"]
def T_law_is_row_c1 (K : PySem.W.Frag) : DE := (dOr (dIsi K (.type "bool") (dVar 2)) (dNot (dIsi K (.type "int") (dVar 2))))
def T_law_is_row_c2 (K : PySem.W.Frag) : DE := (dCh gLe gLt (dC (.int 0)) (dVar 2) (dVar 1))
def T_law_is_row (K : PySem.W.Frag) : DS := (dSeq (dIfS (dTo (dTn (dT (dIsi K (.type "list") (dVar 0)))) (dT (dCB gAny (dCons (dLc 2 (dIl (dVar 0)) dYes (T_law_is_row_c1 K)) dNil)))) (dRet (dC (.bl false))) dNx)
  (dRet (dCB gAll (dCons (dLc 2 (dIl (dVar 0)) dYes (T_law_is_row_c2 K)) dNil))))
theorem rd_law_is_row {K : PySem.W.Frag} : ∀ ds Q, G_law_is_row K ds Q → T_law_is_row K { nx := fun _ => Q .non, rt := Q } (δof N_law_is_row.length ds) := by
  rintro _ Q ⟨xs, n, rfl, hl, h⟩
  simp only [T_law_is_row, rD, dSeq, dIfS, dT, dTn, dTa, dTo, dOp, dVar, dC, dFz_eq, dCB, dCons, dNil, dCall, dCallB, dMeth, dMethB, dSet, dApp, dExt, dRet, dRetM, dNx, dDrop, dNeg, dAnd, dOr, dNot, dIf, dCh, dCh3, dU, dTup, dLst, dFld, dIsi, dIl, dIe, dIr1, dIr2, dIv1, dgN, dgT, putAll, dFor, dPar2, dPar3, dSetT, dLc, dYes, dSl, dNo, dSome, dRev, dNev, dSset, dCount, dIndex, dLrg1, dLrg2, dTwo, un_non, un_int, un_bl, un_str, un_lst, un_tup, un_obj, un_dct, un_scr, un_olst, un_oll, un_oobj, un_mv, un_m, un_p, pl_non, pl_int, pl_bl, pl_str, pl_lst, pl_tup, pl_obj, pl_dct, pl_scr, pl_m, pl_p, fzm_non, fzm_int, fzm_bl, fzm_lst, fzm_tup, fzm_obj, fzm_scr, fzm_olst, fzm_oll, fzm_oobj, fzm_m, frz_non, frz_int, frz_bl, frz_str, frz_lst, frz_tup, frz_obj, frz_dct, frz_scr, frz_olst, frz_oll, frz_m, fz_no, fz_tr, see_no, see_tr, asB_bl, asI_int, asgD_non, asgD_int, asgD_bl, asgD_lst, asgD_tup, asgD_obj, asgD_mv, asgD_m, it_lst, it_olst, it_scr, li_lst, li_olst, pit_lst, pit_scr, sz_lst, sz_olst, sz_oll, sz_scr, sz_tup, ad_int, ad_ll, ad_oo, ad_lo, ad_ol, mu_int, mu_l, mu_o, gI_int, gI0_int, gI2_int, ii_eqv, co_int, co_bl, co_non, co_row, co_rowO, co_nil, co_nilO, co_ps, co_p, co_p2, co_rows, ev_ll, ev_ol, ev_lo, ev_oo, ev_ln, ev_lno, ev_on, ev_ono, in_ps, in_row, gEq, gNe, gIn, gNotIn, g1, g2, gLen, gList, δof, List.getElem?_cons_zero, List.getElem?_cons_succ, List.getElem?_nil, List.set_cons_zero, List.set_cons_succ, List.map_cons, List.map_nil, List.length_cons, List.length_nil, List.replicate_succ, List.replicate_zero, List.cons_append, List.nil_append, Option.bind_some, Option.bind_none, List.all_cons, List.all_nil, List.append_nil, Nat.reduceAdd, Nat.reduceSub, true_and, and_true, Bool.and_true, Bool.true_and]
  refine ⟨true, rfl, ?_⟩
  simp only [dSeq, dIfS, dT, dTn, dTa, dTo, dOp, dVar, dC, dFz_eq, dCB, dCons, dNil, dCall, dCallB, dMeth, dMethB, dSet, dApp, dExt, dRet, dRetM, dNx, dDrop, dNeg, dAnd, dOr, dNot, dIf, dCh, dCh3, dU, dTup, dLst, dFld, dIsi, dIl, dIe, dIr1, dIr2, dIv1, dgN, dgT, putAll, dFor, dPar2, dPar3, dSetT, dLc, dYes, dSl, dNo, dSome, dRev, dNev, dSset, dCount, dIndex, dLrg1, dLrg2, dTwo, un_non, un_int, un_bl, un_str, un_lst, un_tup, un_obj, un_dct, un_scr, un_olst, un_oll, un_oobj, un_mv, un_m, un_p, pl_non, pl_int, pl_bl, pl_str, pl_lst, pl_tup, pl_obj, pl_dct, pl_scr, pl_m, pl_p, fzm_non, fzm_int, fzm_bl, fzm_lst, fzm_tup, fzm_obj, fzm_scr, fzm_olst, fzm_oll, fzm_oobj, fzm_m, frz_non, frz_int, frz_bl, frz_str, frz_lst, frz_tup, frz_obj, frz_dct, frz_scr, frz_olst, frz_oll, frz_m, fz_no, fz_tr, see_no, see_tr, asB_bl, asI_int, asgD_non, asgD_int, asgD_bl, asgD_lst, asgD_tup, asgD_obj, asgD_mv, asgD_m, it_lst, it_olst, it_scr, li_lst, li_olst, pit_lst, pit_scr, sz_lst, sz_olst, sz_oll, sz_scr, sz_tup, ad_int, ad_ll, ad_oo, ad_lo, ad_ol, mu_int, mu_l, mu_o, gI_int, gI0_int, gI2_int, ii_eqv, co_int, co_bl, co_non, co_row, co_rowO, co_nil, co_nilO, co_ps, co_p, co_p2, co_rows, ev_ll, ev_ol, ev_lo, ev_oo, ev_ln, ev_lno, ev_on, ev_ono, in_ps, in_row, gEq, gNe, gIn, gNotIn, g1, g2, gLen, gList, δof, List.getElem?_cons_zero, List.getElem?_cons_succ, List.getElem?_nil, List.set_cons_zero, List.set_cons_succ, List.map_cons, List.map_nil, List.length_cons, List.length_nil, List.replicate_succ, List.replicate_zero, List.cons_append, List.nil_append, Option.bind_some, Option.bind_none, List.all_cons, List.all_nil, List.append_nil, Nat.reduceAdd, Nat.reduceSub, true_and, and_true, Bool.and_true, Bool.true_and, Bool.not_true]
  refine cg0 (f := fun _ => .bl false) xs (fun x _ R hR => ?_) (fun _ => rfl) [] (by rw [List.length_nil]; omega) ?_
  · simp only [T_law_is_row_c1, dSeq, dIfS, dT, dTn, dTa, dTo, dOp, dVar, dC, dFz_eq, dCB, dCons, dNil, dCall, dCallB, dMeth, dMethB, dSet, dApp, dExt, dRet, dRetM, dNx, dDrop, dNeg, dAnd, dOr, dNot, dIf, dCh, dCh3, dU, dTup, dLst, dFld, dIsi, dIl, dIe, dIr1, dIr2, dIv1, dgN, dgT, putAll, dFor, dPar2, dPar3, dSetT, dLc, dYes, dSl, dNo, dSome, dRev, dNev, dSset, dCount, dIndex, dLrg1, dLrg2, dTwo, un_non, un_int, un_bl, un_str, un_lst, un_tup, un_obj, un_dct, un_scr, un_olst, un_oll, un_oobj, un_mv, un_m, un_p, pl_non, pl_int, pl_bl, pl_str, pl_lst, pl_tup, pl_obj, pl_dct, pl_scr, pl_m, pl_p, fzm_non, fzm_int, fzm_bl, fzm_lst, fzm_tup, fzm_obj, fzm_scr, fzm_olst, fzm_oll, fzm_oobj, fzm_m, frz_non, frz_int, frz_bl, frz_str, frz_lst, frz_tup, frz_obj, frz_dct, frz_scr, frz_olst, frz_oll, frz_m, fz_no, fz_tr, see_no, see_tr, asB_bl, asI_int, asgD_non, asgD_int, asgD_bl, asgD_lst, asgD_tup, asgD_obj, asgD_mv, asgD_m, it_lst, it_olst, it_scr, li_lst, li_olst, pit_lst, pit_scr, sz_lst, sz_olst, sz_oll, sz_scr, sz_tup, ad_int, ad_ll, ad_oo, ad_lo, ad_ol, mu_int, mu_l, mu_o, gI_int, gI0_int, gI2_int, ii_eqv, co_int, co_bl, co_non, co_row, co_rowO, co_nil, co_nilO, co_ps, co_p, co_p2, co_rows, ev_ll, ev_ol, ev_lo, ev_oo, ev_ln, ev_lno, ev_on, ev_ono, in_ps, in_row, gEq, gNe, gIn, gNotIn, g1, g2, gLen, gList, δof, List.getElem?_cons_zero, List.getElem?_cons_succ, List.getElem?_nil, List.set_cons_zero, List.set_cons_succ, List.map_cons, List.map_nil, List.length_cons, List.length_nil, List.replicate_succ, List.replicate_zero, List.cons_append, List.nil_append, Option.bind_some, Option.bind_none, List.all_cons, List.all_nil, List.append_nil, Nat.reduceAdd, Nat.reduceSub, true_and, and_true, Bool.and_true, Bool.true_and]
    refine ⟨false, rfl, ?_⟩
    simp only [dSeq, dIfS, dT, dTn, dTa, dTo, dOp, dVar, dC, dFz_eq, dCB, dCons, dNil, dCall, dCallB, dMeth, dMethB, dSet, dApp, dExt, dRet, dRetM, dNx, dDrop, dNeg, dAnd, dOr, dNot, dIf, dCh, dCh3, dU, dTup, dLst, dFld, dIsi, dIl, dIe, dIr1, dIr2, dIv1, dgN, dgT, putAll, dFor, dPar2, dPar3, dSetT, dLc, dYes, dSl, dNo, dSome, dRev, dNev, dSset, dCount, dIndex, dLrg1, dLrg2, dTwo, un_non, un_int, un_bl, un_str, un_lst, un_tup, un_obj, un_dct, un_scr, un_olst, un_oll, un_oobj, un_mv, un_m, un_p, pl_non, pl_int, pl_bl, pl_str, pl_lst, pl_tup, pl_obj, pl_dct, pl_scr, pl_m, pl_p, fzm_non, fzm_int, fzm_bl, fzm_lst, fzm_tup, fzm_obj, fzm_scr, fzm_olst, fzm_oll, fzm_oobj, fzm_m, frz_non, frz_int, frz_bl, frz_str, frz_lst, frz_tup, frz_obj, frz_dct, frz_scr, frz_olst, frz_oll, frz_m, fz_no, fz_tr, see_no, see_tr, asB_bl, asI_int, asgD_non, asgD_int, asgD_bl, asgD_lst, asgD_tup, asgD_obj, asgD_mv, asgD_m, it_lst, it_olst, it_scr, li_lst, li_olst, pit_lst, pit_scr, sz_lst, sz_olst, sz_oll, sz_scr, sz_tup, ad_int, ad_ll, ad_oo, ad_lo, ad_ol, mu_int, mu_l, mu_o, gI_int, gI0_int, gI2_int, ii_eqv, co_int, co_bl, co_non, co_row, co_rowO, co_nil, co_nilO, co_ps, co_p, co_p2, co_rows, ev_ll, ev_ol, ev_lo, ev_oo, ev_ln, ev_lno, ev_on, ev_ono, in_ps, in_row, gEq, gNe, gIn, gNotIn, g1, g2, gLen, gList, δof, List.getElem?_cons_zero, List.getElem?_cons_succ, List.getElem?_nil, List.set_cons_zero, List.set_cons_succ, List.map_cons, List.map_nil, List.length_cons, List.length_nil, List.replicate_succ, List.replicate_zero, List.cons_append, List.nil_append, Option.bind_some, Option.bind_none, List.all_cons, List.all_nil, List.append_nil, Nat.reduceAdd, Nat.reduceSub, true_and, and_true, Bool.and_true, Bool.true_and]
    exact ⟨true, rfl, hR⟩
  · refine gy_map ?_
    have z : (xs.any fun _ => false) = false := by simp
    rw [z]
    simp only [dSeq, dIfS, dT, dTn, dTa, dTo, dOp, dVar, dC, dFz_eq, dCB, dCons, dNil, dCall, dCallB, dMeth, dMethB, dSet, dApp, dExt, dRet, dRetM, dNx, dDrop, dNeg, dAnd, dOr, dNot, dIf, dCh, dCh3, dU, dTup, dLst, dFld, dIsi, dIl, dIe, dIr1, dIr2, dIv1, dgN, dgT, putAll, dFor, dPar2, dPar3, dSetT, dLc, dYes, dSl, dNo, dSome, dRev, dNev, dSset, dCount, dIndex, dLrg1, dLrg2, dTwo, un_non, un_int, un_bl, un_str, un_lst, un_tup, un_obj, un_dct, un_scr, un_olst, un_oll, un_oobj, un_mv, un_m, un_p, pl_non, pl_int, pl_bl, pl_str, pl_lst, pl_tup, pl_obj, pl_dct, pl_scr, pl_m, pl_p, fzm_non, fzm_int, fzm_bl, fzm_lst, fzm_tup, fzm_obj, fzm_scr, fzm_olst, fzm_oll, fzm_oobj, fzm_m, frz_non, frz_int, frz_bl, frz_str, frz_lst, frz_tup, frz_obj, frz_dct, frz_scr, frz_olst, frz_oll, frz_m, fz_no, fz_tr, see_no, see_tr, asB_bl, asI_int, asgD_non, asgD_int, asgD_bl, asgD_lst, asgD_tup, asgD_obj, asgD_mv, asgD_m, it_lst, it_olst, it_scr, li_lst, li_olst, pit_lst, pit_scr, sz_lst, sz_olst, sz_oll, sz_scr, sz_tup, ad_int, ad_ll, ad_oo, ad_lo, ad_ol, mu_int, mu_l, mu_o, gI_int, gI0_int, gI2_int, ii_eqv, co_int, co_bl, co_non, co_row, co_rowO, co_nil, co_nilO, co_ps, co_p, co_p2, co_rows, ev_ll, ev_ol, ev_lo, ev_oo, ev_ln, ev_lno, ev_on, ev_ono, in_ps, in_row, gEq, gNe, gIn, gNotIn, g1, g2, gLen, gList, δof, List.getElem?_cons_zero, List.getElem?_cons_succ, List.getElem?_nil, List.set_cons_zero, List.set_cons_succ, List.map_cons, List.map_nil, List.length_cons, List.length_nil, List.replicate_succ, List.replicate_zero, List.cons_append, List.nil_append, Option.bind_some, Option.bind_none, List.all_cons, List.all_nil, List.append_nil, Nat.reduceAdd, Nat.reduceSub, true_and, and_true, Bool.and_true, Bool.true_and]
    refine cg0 (f := fun x => .bl (kB n x)) xs (fun x _ R hR => ?_) (fun _ => rfl) [] (by rw [List.length_nil]; omega) ?_
    · simp only [T_law_is_row_c2, dSeq, dIfS, dT, dTn, dTa, dTo, dOp, dVar, dC, dFz_eq, dCB, dCons, dNil, dCall, dCallB, dMeth, dMethB, dSet, dApp, dExt, dRet, dRetM, dNx, dDrop, dNeg, dAnd, dOr, dNot, dIf, dCh, dCh3, dU, dTup, dLst, dFld, dIsi, dIl, dIe, dIr1, dIr2, dIv1, dgN, dgT, putAll, dFor, dPar2, dPar3, dSetT, dLc, dYes, dSl, dNo, dSome, dRev, dNev, dSset, dCount, dIndex, dLrg1, dLrg2, dTwo, un_non, un_int, un_bl, un_str, un_lst, un_tup, un_obj, un_dct, un_scr, un_olst, un_oll, un_oobj, un_mv, un_m, un_p, pl_non, pl_int, pl_bl, pl_str, pl_lst, pl_tup, pl_obj, pl_dct, pl_scr, pl_m, pl_p, fzm_non, fzm_int, fzm_bl, fzm_lst, fzm_tup, fzm_obj, fzm_scr, fzm_olst, fzm_oll, fzm_oobj, fzm_m, frz_non, frz_int, frz_bl, frz_str, frz_lst, frz_tup, frz_obj, frz_dct, frz_scr, frz_olst, frz_oll, frz_m, fz_no, fz_tr, see_no, see_tr, asB_bl, asI_int, asgD_non, asgD_int, asgD_bl, asgD_lst, asgD_tup, asgD_obj, asgD_mv, asgD_m, it_lst, it_olst, it_scr, li_lst, li_olst, pit_lst, pit_scr, sz_lst, sz_olst, sz_oll, sz_scr, sz_tup, ad_int, ad_ll, ad_oo, ad_lo, ad_ol, mu_int, mu_l, mu_o, gI_int, gI0_int, gI2_int, ii_eqv, co_int, co_bl, co_non, co_row, co_rowO, co_nil, co_nilO, co_ps, co_p, co_p2, co_rows, ev_ll, ev_ol, ev_lo, ev_oo, ev_ln, ev_lno, ev_on, ev_ono, in_ps, in_row, gEq, gNe, gIn, gNotIn, g1, g2, gLen, gList, δof, List.getElem?_cons_zero, List.getElem?_cons_succ, List.getElem?_nil, List.set_cons_zero, List.set_cons_succ, List.map_cons, List.map_nil, List.length_cons, List.length_nil, List.replicate_succ, List.replicate_zero, List.cons_append, List.nil_append, Option.bind_some, Option.bind_none, List.all_cons, List.all_nil, List.append_nil, Nat.reduceAdd, Nat.reduceSub, true_and, and_true, Bool.and_true, Bool.true_and]
      unfold kB at hR
      by_cases c0 : 0 ≤ x
      · rw [decide_eq_true c0]
        simp only [dSeq, dIfS, dT, dTn, dTa, dTo, dOp, dVar, dC, dFz_eq, dCB, dCons, dNil, dCall, dCallB, dMeth, dMethB, dSet, dApp, dExt, dRet, dRetM, dNx, dDrop, dNeg, dAnd, dOr, dNot, dIf, dCh, dCh3, dU, dTup, dLst, dFld, dIsi, dIl, dIe, dIr1, dIr2, dIv1, dgN, dgT, putAll, dFor, dPar2, dPar3, dSetT, dLc, dYes, dSl, dNo, dSome, dRev, dNev, dSset, dCount, dIndex, dLrg1, dLrg2, dTwo, un_non, un_int, un_bl, un_str, un_lst, un_tup, un_obj, un_dct, un_scr, un_olst, un_oll, un_oobj, un_mv, un_m, un_p, pl_non, pl_int, pl_bl, pl_str, pl_lst, pl_tup, pl_obj, pl_dct, pl_scr, pl_m, pl_p, fzm_non, fzm_int, fzm_bl, fzm_lst, fzm_tup, fzm_obj, fzm_scr, fzm_olst, fzm_oll, fzm_oobj, fzm_m, frz_non, frz_int, frz_bl, frz_str, frz_lst, frz_tup, frz_obj, frz_dct, frz_scr, frz_olst, frz_oll, frz_m, fz_no, fz_tr, see_no, see_tr, asB_bl, asI_int, asgD_non, asgD_int, asgD_bl, asgD_lst, asgD_tup, asgD_obj, asgD_mv, asgD_m, it_lst, it_olst, it_scr, li_lst, li_olst, pit_lst, pit_scr, sz_lst, sz_olst, sz_oll, sz_scr, sz_tup, ad_int, ad_ll, ad_oo, ad_lo, ad_ol, mu_int, mu_l, mu_o, gI_int, gI0_int, gI2_int, ii_eqv, co_int, co_bl, co_non, co_row, co_rowO, co_nil, co_nilO, co_ps, co_p, co_p2, co_rows, ev_ll, ev_ol, ev_lo, ev_oo, ev_ln, ev_lno, ev_on, ev_ono, in_ps, in_row, gEq, gNe, gIn, gNotIn, g1, g2, gLen, gList, δof, List.getElem?_cons_zero, List.getElem?_cons_succ, List.getElem?_nil, List.set_cons_zero, List.set_cons_succ, List.map_cons, List.map_nil, List.length_cons, List.length_nil, List.replicate_succ, List.replicate_zero, List.cons_append, List.nil_append, Option.bind_some, Option.bind_none, List.all_cons, List.all_nil, List.append_nil, Nat.reduceAdd, Nat.reduceSub, true_and, and_true, Bool.and_true, Bool.true_and]
        simpa [c0] using hR
      · rw [decide_eq_false c0]
        simpa [c0] using hR
    · exact ga_map h
/-! ### the same doing, by the law's walk -/
def smB (n : Int) (m : Int → Int → Bool) (xs ys : List Int) : Bool := decide (xs.length = ys.length) && (xs.all (kB n) && (ys.all (kB n) && sameB m xs ys))
theorem smB_tr {n : Int} {m : Int → Int → Bool} (hm : Mi m) {xs ys : List Int} (hx : Kinds n xs) (hy : Kinds n ys) : smB n m xs ys = true ↔ Tr m xs ys := by
  unfold smB
  rw [kB_all.mpr hx, kB_all.mpr hy, Bool.true_and, Bool.true_and, Bool.and_eq_true, decide_eq_true_eq, sameB_tr hm]
  exact ⟨fun h => h.2.symm hm, fun h => ⟨h.len, h.symm hm⟩⟩
def G_law_same (_K : PySem.W.Frag) : GD := fun ds P => ∃ n ps xs ys, ds = [.int n, .lst (ps.map pD), rD xs, rD ys] ∧ xs.length ≤ 1000 ∧ ys.length ≤ 1000 ∧ P (.bl (smB n (mnd ps) xs ys))
/-! ### law_same -/
abbrev N_law_same : List Str := ["_law_kinds", "_law_pairs", "_law_one", "_law_other", "_law_left", "_law_kind", "_law_at", "_law_ahead"]
def T_law_same_c1 (K : PySem.W.Frag) : DE := (dFz (dCall (G_law_mind K) (dCons (dVar 1) (dCons (dVar 5) (dCons (dVar 7) dNil)))))
def T_law_same_f2 (K : PySem.W.Frag) : DS := (dSeq (dIfS (dT (dOp gNotIn (dVar 5) (dVar 4))) (dRet (dC (.bl false))) dNx)
  (dSeq (dSet 6 (dFz (dIndex (dVar 4) (dCons (dVar 5) dNil))))
  (dSeq (dIfS (dT (dCB gAny (dCons (dLc 7 (dIl (dFz (dSl (dVar 4) dNo (dSome (dVar 6))))) dYes (T_law_same_c1 K)) dNil))) (dRet (dC (.bl false))) dNx)
  (dSet 4 (dFz (dOp gAdd (dSl (dVar 4) dNo (dSome (dVar 6))) (dSl (dVar 4) (dSome (dOp gAdd (dVar 6) (dC (.int 1)))) dNo)))))))
def T_law_same (K : PySem.W.Frag) : DS := (dSeq (dSet 4 (dFz (dCB gList (dCons (dVar 3) dNil))))
  (dSeq (dIfS (dTo (dT (dOp gNe (dCB gLen (dCons (dVar 2) dNil)) (dCB gLen (dCons (dVar 3) dNil)))) (dTo (dTn (dT (dCall (G_law_is_row K) (dCons (dVar 2) (dCons (dVar 0) dNil))))) (dTn (dT (dCall (G_law_is_row K) (dCons (dVar 3) (dCons (dVar 0) dNil))))))) (dRet (dC (.bl false))) dNx)
  (dSeq (dFor (dIl (dVar 2)) (dgN 5) (T_law_same_f2 K))
  (dRet (dC (.bl true))))))
theorem sameB_len {m : Int → Int → Bool} : ∀ {xs ys : List Int}, sameB m xs ys = true → xs.length = ys.length
  | [], ys, h => by
    unfold sameB at h
    rw [of_decide_eq_true h]
  | x :: xs, ys, h => by
    unfold sameB at h
    split at h
    · rename_i hx
      split at h
      · cases h
      · have z := sameB_len h
        have lt : ys.idxOf x < ys.length := List.idxOf_lt_length_iff.mpr hx
        rw [List.length_append, List.length_take, List.length_drop] at z
        rw [List.length_cons]
        omega
    · cases h
theorem same2_f {K : PySem.W.Frag} {d0 one other : D} {ps : List (Int × Int)} {E : EndsD} {P : Bool → Prop} (h1 : P false → E.rt (.bl false)) (h2 : ∀ (ys : List Int) e5 e6, ys = [] → P true → E.nx [.tr d0, .tr (.lst (ps.map pD)), .tr one, .tr other, .tr (rD ys), e5, e6, .no]) :
    ∀ (xs ys : List Int) (e5 e6 : DV), ys.length ≤ 1000 → ys.length = xs.length → P (sameB (mnd ps) xs ys) → forGo (dgN 5) (T_law_same_f2 K) E (xs.map .int) [.tr d0, .tr (.lst (ps.map pD)), .tr one, .tr other, .tr (rD ys), e5, e6, .no]
  | [], ys, e5, e6, hl, hxy, h => by
    have e := List.length_eq_zero_iff.mp hxy
    subst e
    exact h2 [] e5 e6 rfl h
  | x :: xs, ys, e5, e6, hl, hxy, h => by
    rw [List.length_cons] at hxy
    refine forGo_op fun N hN => ?_
    simp only [T_law_same_f2, rD, dSeq, dIfS, dT, dTn, dTa, dTo, dOp, dVar, dC, dFz_eq, dCB, dCons, dNil, dCall, dCallB, dMeth, dMethB, dSet, dApp, dExt, dRet, dRetM, dNx, dDrop, dNeg, dAnd, dOr, dNot, dIf, dCh, dCh3, dU, dTup, dLst, dFld, dIsi, dIl, dIe, dIr1, dIr2, dIv1, dgN, dgT, putAll, dFor, dPar2, dPar3, dSetT, dLc, dYes, dSl, dNo, dSome, dRev, dNev, dSset, dCount, dIndex, dLrg1, dLrg2, dTwo, un_non, un_int, un_bl, un_str, un_lst, un_tup, un_obj, un_dct, un_scr, un_olst, un_oll, un_oobj, un_mv, un_m, un_p, pl_non, pl_int, pl_bl, pl_str, pl_lst, pl_tup, pl_obj, pl_dct, pl_scr, pl_m, pl_p, fzm_non, fzm_int, fzm_bl, fzm_lst, fzm_tup, fzm_obj, fzm_scr, fzm_olst, fzm_oll, fzm_oobj, fzm_m, frz_non, frz_int, frz_bl, frz_str, frz_lst, frz_tup, frz_obj, frz_dct, frz_scr, frz_olst, frz_oll, frz_m, fz_no, fz_tr, see_no, see_tr, asB_bl, asI_int, asgD_non, asgD_int, asgD_bl, asgD_lst, asgD_tup, asgD_obj, asgD_mv, asgD_m, it_lst, it_olst, it_scr, li_lst, li_olst, pit_lst, pit_scr, sz_lst, sz_olst, sz_oll, sz_scr, sz_tup, ad_int, ad_ll, ad_oo, ad_lo, ad_ol, mu_int, mu_l, mu_o, gI_int, gI0_int, gI2_int, ii_eqv, co_int, co_bl, co_non, co_row, co_rowO, co_nil, co_nilO, co_ps, co_p, co_p2, co_rows, ev_ll, ev_ol, ev_lo, ev_oo, ev_ln, ev_lno, ev_on, ev_ono, in_ps, in_row, gEq, gNe, gIn, gNotIn, g1, g2, gLen, gList, δof, List.getElem?_cons_zero, List.getElem?_cons_succ, List.getElem?_nil, List.set_cons_zero, List.set_cons_succ, List.map_cons, List.map_nil, List.length_cons, List.length_nil, List.replicate_succ, List.replicate_zero, List.cons_append, List.nil_append, Option.bind_some, Option.bind_none, List.all_cons, List.all_nil, List.append_nil, Nat.reduceAdd, Nat.reduceSub, true_and, and_true, Bool.and_true, Bool.true_and]
    unfold sameB at h
    by_cases hx : x ∈ ys
    · rw [if_pos hx] at h
      rw [decide_eq_true hx]
      simp only [Bool.not_true, dSeq, dIfS, dT, dTn, dTa, dTo, dOp, dVar, dC, dFz_eq, dCB, dCons, dNil, dCall, dCallB, dMeth, dMethB, dSet, dApp, dExt, dRet, dRetM, dNx, dDrop, dNeg, dAnd, dOr, dNot, dIf, dCh, dCh3, dU, dTup, dLst, dFld, dIsi, dIl, dIe, dIr1, dIr2, dIv1, dgN, dgT, putAll, dFor, dPar2, dPar3, dSetT, dLc, dYes, dSl, dNo, dSome, dRev, dNev, dSset, dCount, dIndex, dLrg1, dLrg2, dTwo, un_non, un_int, un_bl, un_str, un_lst, un_tup, un_obj, un_dct, un_scr, un_olst, un_oll, un_oobj, un_mv, un_m, un_p, pl_non, pl_int, pl_bl, pl_str, pl_lst, pl_tup, pl_obj, pl_dct, pl_scr, pl_m, pl_p, fzm_non, fzm_int, fzm_bl, fzm_lst, fzm_tup, fzm_obj, fzm_scr, fzm_olst, fzm_oll, fzm_oobj, fzm_m, frz_non, frz_int, frz_bl, frz_str, frz_lst, frz_tup, frz_obj, frz_dct, frz_scr, frz_olst, frz_oll, frz_m, fz_no, fz_tr, see_no, see_tr, asB_bl, asI_int, asgD_non, asgD_int, asgD_bl, asgD_lst, asgD_tup, asgD_obj, asgD_mv, asgD_m, it_lst, it_olst, it_scr, li_lst, li_olst, pit_lst, pit_scr, sz_lst, sz_olst, sz_oll, sz_scr, sz_tup, ad_int, ad_ll, ad_oo, ad_lo, ad_ol, mu_int, mu_l, mu_o, gI_int, gI0_int, gI2_int, ii_eqv, co_int, co_bl, co_non, co_row, co_rowO, co_nil, co_nilO, co_ps, co_p, co_p2, co_rows, ev_ll, ev_ol, ev_lo, ev_oo, ev_ln, ev_lno, ev_on, ev_ono, in_ps, in_row, gEq, gNe, gIn, gNotIn, g1, g2, gLen, gList, δof, List.getElem?_cons_zero, List.getElem?_cons_succ, List.getElem?_nil, List.set_cons_zero, List.set_cons_succ, List.map_cons, List.map_nil, List.length_cons, List.length_nil, List.replicate_succ, List.replicate_zero, List.cons_append, List.nil_append, Option.bind_some, Option.bind_none, List.all_cons, List.all_nil, List.append_nil, Nat.reduceAdd, Nat.reduceSub, true_and, and_true, Bool.and_true, Bool.true_and, g2I, ints_lst]
      refine ⟨by simp, hx, ?_⟩
      have lt : ys.idxOf x < ys.length := List.idxOf_lt_length_iff.mpr hx
      generalize ys.idxOf x = p at *
      rw [cut_to (by rw [List.length_map]; omega), ← List.map_take]
      refine any_c (ps := ps) (k := x) (fun a R hR => ?_) (ys.take p) [] (by rw [List.length_take, List.length_nil]; omega) ?_
      · simp only [T_law_same_c1, dSeq, dIfS, dT, dTn, dTa, dTo, dOp, dVar, dC, dFz_eq, dCB, dCons, dNil, dCall, dCallB, dMeth, dMethB, dSet, dApp, dExt, dRet, dRetM, dNx, dDrop, dNeg, dAnd, dOr, dNot, dIf, dCh, dCh3, dU, dTup, dLst, dFld, dIsi, dIl, dIe, dIr1, dIr2, dIv1, dgN, dgT, putAll, dFor, dPar2, dPar3, dSetT, dLc, dYes, dSl, dNo, dSome, dRev, dNev, dSset, dCount, dIndex, dLrg1, dLrg2, dTwo, un_non, un_int, un_bl, un_str, un_lst, un_tup, un_obj, un_dct, un_scr, un_olst, un_oll, un_oobj, un_mv, un_m, un_p, pl_non, pl_int, pl_bl, pl_str, pl_lst, pl_tup, pl_obj, pl_dct, pl_scr, pl_m, pl_p, fzm_non, fzm_int, fzm_bl, fzm_lst, fzm_tup, fzm_obj, fzm_scr, fzm_olst, fzm_oll, fzm_oobj, fzm_m, frz_non, frz_int, frz_bl, frz_str, frz_lst, frz_tup, frz_obj, frz_dct, frz_scr, frz_olst, frz_oll, frz_m, fz_no, fz_tr, see_no, see_tr, asB_bl, asI_int, asgD_non, asgD_int, asgD_bl, asgD_lst, asgD_tup, asgD_obj, asgD_mv, asgD_m, it_lst, it_olst, it_scr, li_lst, li_olst, pit_lst, pit_scr, sz_lst, sz_olst, sz_oll, sz_scr, sz_tup, ad_int, ad_ll, ad_oo, ad_lo, ad_ol, mu_int, mu_l, mu_o, gI_int, gI0_int, gI2_int, ii_eqv, co_int, co_bl, co_non, co_row, co_rowO, co_nil, co_nilO, co_ps, co_p, co_p2, co_rows, ev_ll, ev_ol, ev_lo, ev_oo, ev_ln, ev_lno, ev_on, ev_ono, in_ps, in_row, gEq, gNe, gIn, gNotIn, g1, g2, gLen, gList, δof, List.getElem?_cons_zero, List.getElem?_cons_succ, List.getElem?_nil, List.set_cons_zero, List.set_cons_succ, List.map_cons, List.map_nil, List.length_cons, List.length_nil, List.replicate_succ, List.replicate_zero, List.cons_append, List.nil_append, Option.bind_some, Option.bind_none, List.all_cons, List.all_nil, List.append_nil, Nat.reduceAdd, Nat.reduceSub, true_and, and_true, Bool.and_true, Bool.true_and]
        exact ⟨ps, x, a, rfl, hR⟩
      · simp only [dSeq, dIfS, dT, dTn, dTa, dTo, dOp, dVar, dC, dFz_eq, dCB, dCons, dNil, dCall, dCallB, dMeth, dMethB, dSet, dApp, dExt, dRet, dRetM, dNx, dDrop, dNeg, dAnd, dOr, dNot, dIf, dCh, dCh3, dU, dTup, dLst, dFld, dIsi, dIl, dIe, dIr1, dIr2, dIv1, dgN, dgT, putAll, dFor, dPar2, dPar3, dSetT, dLc, dYes, dSl, dNo, dSome, dRev, dNev, dSset, dCount, dIndex, dLrg1, dLrg2, dTwo, un_non, un_int, un_bl, un_str, un_lst, un_tup, un_obj, un_dct, un_scr, un_olst, un_oll, un_oobj, un_mv, un_m, un_p, pl_non, pl_int, pl_bl, pl_str, pl_lst, pl_tup, pl_obj, pl_dct, pl_scr, pl_m, pl_p, fzm_non, fzm_int, fzm_bl, fzm_lst, fzm_tup, fzm_obj, fzm_scr, fzm_olst, fzm_oll, fzm_oobj, fzm_m, frz_non, frz_int, frz_bl, frz_str, frz_lst, frz_tup, frz_obj, frz_dct, frz_scr, frz_olst, frz_oll, frz_m, fz_no, fz_tr, see_no, see_tr, asB_bl, asI_int, asgD_non, asgD_int, asgD_bl, asgD_lst, asgD_tup, asgD_obj, asgD_mv, asgD_m, it_lst, it_olst, it_scr, li_lst, li_olst, pit_lst, pit_scr, sz_lst, sz_olst, sz_oll, sz_scr, sz_tup, ad_int, ad_ll, ad_oo, ad_lo, ad_ol, mu_int, mu_l, mu_o, gI_int, gI0_int, gI2_int, ii_eqv, co_int, co_bl, co_non, co_row, co_rowO, co_nil, co_nilO, co_ps, co_p, co_p2, co_rows, ev_ll, ev_ol, ev_lo, ev_oo, ev_ln, ev_lno, ev_on, ev_ono, in_ps, in_row, gEq, gNe, gIn, gNotIn, g1, g2, gLen, gList, δof, List.getElem?_cons_zero, List.getElem?_cons_succ, List.getElem?_nil, List.set_cons_zero, List.set_cons_succ, List.map_cons, List.map_nil, List.length_cons, List.length_nil, List.replicate_succ, List.replicate_zero, List.cons_append, List.nil_append, Option.bind_some, Option.bind_none, List.all_cons, List.all_nil, List.append_nil, Nat.reduceAdd, Nat.reduceSub, true_and, and_true, Bool.and_true, Bool.true_and]
        refine gy_map ?_
        simp only [dSeq, dIfS, dT, dTn, dTa, dTo, dOp, dVar, dC, dFz_eq, dCB, dCons, dNil, dCall, dCallB, dMeth, dMethB, dSet, dApp, dExt, dRet, dRetM, dNx, dDrop, dNeg, dAnd, dOr, dNot, dIf, dCh, dCh3, dU, dTup, dLst, dFld, dIsi, dIl, dIe, dIr1, dIr2, dIv1, dgN, dgT, putAll, dFor, dPar2, dPar3, dSetT, dLc, dYes, dSl, dNo, dSome, dRev, dNev, dSset, dCount, dIndex, dLrg1, dLrg2, dTwo, un_non, un_int, un_bl, un_str, un_lst, un_tup, un_obj, un_dct, un_scr, un_olst, un_oll, un_oobj, un_mv, un_m, un_p, pl_non, pl_int, pl_bl, pl_str, pl_lst, pl_tup, pl_obj, pl_dct, pl_scr, pl_m, pl_p, fzm_non, fzm_int, fzm_bl, fzm_lst, fzm_tup, fzm_obj, fzm_scr, fzm_olst, fzm_oll, fzm_oobj, fzm_m, frz_non, frz_int, frz_bl, frz_str, frz_lst, frz_tup, frz_obj, frz_dct, frz_scr, frz_olst, frz_oll, frz_m, fz_no, fz_tr, see_no, see_tr, asB_bl, asI_int, asgD_non, asgD_int, asgD_bl, asgD_lst, asgD_tup, asgD_obj, asgD_mv, asgD_m, it_lst, it_olst, it_scr, li_lst, li_olst, pit_lst, pit_scr, sz_lst, sz_olst, sz_oll, sz_scr, sz_tup, ad_int, ad_ll, ad_oo, ad_lo, ad_ol, mu_int, mu_l, mu_o, gI_int, gI0_int, gI2_int, ii_eqv, co_int, co_bl, co_non, co_row, co_rowO, co_nil, co_nilO, co_ps, co_p, co_p2, co_rows, ev_ll, ev_ol, ev_lo, ev_oo, ev_ln, ev_lno, ev_on, ev_ono, in_ps, in_row, gEq, gNe, gIn, gNotIn, g1, g2, gLen, gList, δof, List.getElem?_cons_zero, List.getElem?_cons_succ, List.getElem?_nil, List.set_cons_zero, List.set_cons_succ, List.map_cons, List.map_nil, List.length_cons, List.length_nil, List.replicate_succ, List.replicate_zero, List.cons_append, List.nil_append, Option.bind_some, Option.bind_none, List.all_cons, List.all_nil, List.append_nil, Nat.reduceAdd, Nat.reduceSub, true_and, and_true, Bool.and_true, Bool.true_and]
        by_cases c : (ys.take p).any (fun a => mnd ps x a) = true
        · rw [if_pos c] at h
          rw [c]
          exact h1 h
        · rw [if_neg c] at h
          have c2 : (ys.take p).any (fun a => mnd ps x a) = false := by simpa using c
          rw [c2]
          have q : ((p : Int) + 1) = ((p + 1 : Nat) : Int) := by omega
          simp only [dSeq, dIfS, dT, dTn, dTa, dTo, dOp, dVar, dC, dFz_eq, dCB, dCons, dNil, dCall, dCallB, dMeth, dMethB, dSet, dApp, dExt, dRet, dRetM, dNx, dDrop, dNeg, dAnd, dOr, dNot, dIf, dCh, dCh3, dU, dTup, dLst, dFld, dIsi, dIl, dIe, dIr1, dIr2, dIv1, dgN, dgT, putAll, dFor, dPar2, dPar3, dSetT, dLc, dYes, dSl, dNo, dSome, dRev, dNev, dSset, dCount, dIndex, dLrg1, dLrg2, dTwo, un_non, un_int, un_bl, un_str, un_lst, un_tup, un_obj, un_dct, un_scr, un_olst, un_oll, un_oobj, un_mv, un_m, un_p, pl_non, pl_int, pl_bl, pl_str, pl_lst, pl_tup, pl_obj, pl_dct, pl_scr, pl_m, pl_p, fzm_non, fzm_int, fzm_bl, fzm_lst, fzm_tup, fzm_obj, fzm_scr, fzm_olst, fzm_oll, fzm_oobj, fzm_m, frz_non, frz_int, frz_bl, frz_str, frz_lst, frz_tup, frz_obj, frz_dct, frz_scr, frz_olst, frz_oll, frz_m, fz_no, fz_tr, see_no, see_tr, asB_bl, asI_int, asgD_non, asgD_int, asgD_bl, asgD_lst, asgD_tup, asgD_obj, asgD_mv, asgD_m, it_lst, it_olst, it_scr, li_lst, li_olst, pit_lst, pit_scr, sz_lst, sz_olst, sz_oll, sz_scr, sz_tup, ad_int, ad_ll, ad_oo, ad_lo, ad_ol, mu_int, mu_l, mu_o, gI_int, gI0_int, gI2_int, ii_eqv, co_int, co_bl, co_non, co_row, co_rowO, co_nil, co_nilO, co_ps, co_p, co_p2, co_rows, ev_ll, ev_ol, ev_lo, ev_oo, ev_ln, ev_lno, ev_on, ev_ono, in_ps, in_row, gEq, gNe, gIn, gNotIn, g1, g2, gLen, gList, δof, List.getElem?_cons_zero, List.getElem?_cons_succ, List.getElem?_nil, List.set_cons_zero, List.set_cons_succ, List.map_cons, List.map_nil, List.length_cons, List.length_nil, List.replicate_succ, List.replicate_zero, List.cons_append, List.nil_append, Option.bind_some, Option.bind_none, List.all_cons, List.all_nil, List.append_nil, Nat.reduceAdd, Nat.reduceSub, true_and, and_true, Bool.and_true, Bool.true_and, q]
          rw [cut_from (by rw [List.length_map]; omega), ← List.map_drop, ← List.map_append]
          refine ⟨by rw [List.length_map, List.length_map, List.length_take, List.length_drop]; omega, ?_⟩
          rw [hN]
          exact same2_f h1 h2 xs _ _ _ (by rw [List.length_append, List.length_take, List.length_drop]; omega) (by rw [List.length_append, List.length_take, List.length_drop]; omega) h
    · rw [if_neg hx] at h
      rw [decide_eq_false hx]
      exact h1 h
theorem rd_law_same {K : PySem.W.Frag} : ∀ ds Q, G_law_same K ds Q → T_law_same K { nx := fun _ => Q .non, rt := Q } (δof N_law_same.length ds) := by
  rintro _ Q ⟨n, ps, xs, ys, rfl, hx, hy, h⟩
  simp only [T_law_same, rD, dSeq, dIfS, dT, dTn, dTa, dTo, dOp, dVar, dC, dFz_eq, dCB, dCons, dNil, dCall, dCallB, dMeth, dMethB, dSet, dApp, dExt, dRet, dRetM, dNx, dDrop, dNeg, dAnd, dOr, dNot, dIf, dCh, dCh3, dU, dTup, dLst, dFld, dIsi, dIl, dIe, dIr1, dIr2, dIv1, dgN, dgT, putAll, dFor, dPar2, dPar3, dSetT, dLc, dYes, dSl, dNo, dSome, dRev, dNev, dSset, dCount, dIndex, dLrg1, dLrg2, dTwo, un_non, un_int, un_bl, un_str, un_lst, un_tup, un_obj, un_dct, un_scr, un_olst, un_oll, un_oobj, un_mv, un_m, un_p, pl_non, pl_int, pl_bl, pl_str, pl_lst, pl_tup, pl_obj, pl_dct, pl_scr, pl_m, pl_p, fzm_non, fzm_int, fzm_bl, fzm_lst, fzm_tup, fzm_obj, fzm_scr, fzm_olst, fzm_oll, fzm_oobj, fzm_m, frz_non, frz_int, frz_bl, frz_str, frz_lst, frz_tup, frz_obj, frz_dct, frz_scr, frz_olst, frz_oll, frz_m, fz_no, fz_tr, see_no, see_tr, asB_bl, asI_int, asgD_non, asgD_int, asgD_bl, asgD_lst, asgD_tup, asgD_obj, asgD_mv, asgD_m, it_lst, it_olst, it_scr, li_lst, li_olst, pit_lst, pit_scr, sz_lst, sz_olst, sz_oll, sz_scr, sz_tup, ad_int, ad_ll, ad_oo, ad_lo, ad_ol, mu_int, mu_l, mu_o, gI_int, gI0_int, gI2_int, ii_eqv, co_int, co_bl, co_non, co_row, co_rowO, co_nil, co_nilO, co_ps, co_p, co_p2, co_rows, ev_ll, ev_ol, ev_lo, ev_oo, ev_ln, ev_lno, ev_on, ev_ono, in_ps, in_row, gEq, gNe, gIn, gNotIn, g1, g2, gLen, gList, δof, List.getElem?_cons_zero, List.getElem?_cons_succ, List.getElem?_nil, List.set_cons_zero, List.set_cons_succ, List.map_cons, List.map_nil, List.length_cons, List.length_nil, List.replicate_succ, List.replicate_zero, List.cons_append, List.nil_append, Option.bind_some, Option.bind_none, List.all_cons, List.all_nil, List.append_nil, Nat.reduceAdd, Nat.reduceSub, true_and, and_true, Bool.and_true, Bool.true_and, List.length_map]
  unfold smB at h
  by_cases e : xs.length = ys.length
  · rw [decide_eq_true e] at h
    rw [decide_eq_true (by omega)]
    simp only [dSeq, dIfS, dT, dTn, dTa, dTo, dOp, dVar, dC, dFz_eq, dCB, dCons, dNil, dCall, dCallB, dMeth, dMethB, dSet, dApp, dExt, dRet, dRetM, dNx, dDrop, dNeg, dAnd, dOr, dNot, dIf, dCh, dCh3, dU, dTup, dLst, dFld, dIsi, dIl, dIe, dIr1, dIr2, dIv1, dgN, dgT, putAll, dFor, dPar2, dPar3, dSetT, dLc, dYes, dSl, dNo, dSome, dRev, dNev, dSset, dCount, dIndex, dLrg1, dLrg2, dTwo, un_non, un_int, un_bl, un_str, un_lst, un_tup, un_obj, un_dct, un_scr, un_olst, un_oll, un_oobj, un_mv, un_m, un_p, pl_non, pl_int, pl_bl, pl_str, pl_lst, pl_tup, pl_obj, pl_dct, pl_scr, pl_m, pl_p, fzm_non, fzm_int, fzm_bl, fzm_lst, fzm_tup, fzm_obj, fzm_scr, fzm_olst, fzm_oll, fzm_oobj, fzm_m, frz_non, frz_int, frz_bl, frz_str, frz_lst, frz_tup, frz_obj, frz_dct, frz_scr, frz_olst, frz_oll, frz_m, fz_no, fz_tr, see_no, see_tr, asB_bl, asI_int, asgD_non, asgD_int, asgD_bl, asgD_lst, asgD_tup, asgD_obj, asgD_mv, asgD_m, it_lst, it_olst, it_scr, li_lst, li_olst, pit_lst, pit_scr, sz_lst, sz_olst, sz_oll, sz_scr, sz_tup, ad_int, ad_ll, ad_oo, ad_lo, ad_ol, mu_int, mu_l, mu_o, gI_int, gI0_int, gI2_int, ii_eqv, co_int, co_bl, co_non, co_row, co_rowO, co_nil, co_nilO, co_ps, co_p, co_p2, co_rows, ev_ll, ev_ol, ev_lo, ev_oo, ev_ln, ev_lno, ev_on, ev_ono, in_ps, in_row, gEq, gNe, gIn, gNotIn, g1, g2, gLen, gList, δof, List.getElem?_cons_zero, List.getElem?_cons_succ, List.getElem?_nil, List.set_cons_zero, List.set_cons_succ, List.map_cons, List.map_nil, List.length_cons, List.length_nil, List.replicate_succ, List.replicate_zero, List.cons_append, List.nil_append, Option.bind_some, Option.bind_none, List.all_cons, List.all_nil, List.append_nil, Nat.reduceAdd, Nat.reduceSub, true_and, and_true, Bool.and_true, Bool.true_and, Bool.not_true]
    refine ⟨xs, n, rfl, hx, ?_⟩
    cases kx : xs.all (kB n) with
    | false =>
      rw [kx] at h
      exact h
    | true =>
      rw [kx] at h
      simp only [dSeq, dIfS, dT, dTn, dTa, dTo, dOp, dVar, dC, dFz_eq, dCB, dCons, dNil, dCall, dCallB, dMeth, dMethB, dSet, dApp, dExt, dRet, dRetM, dNx, dDrop, dNeg, dAnd, dOr, dNot, dIf, dCh, dCh3, dU, dTup, dLst, dFld, dIsi, dIl, dIe, dIr1, dIr2, dIv1, dgN, dgT, putAll, dFor, dPar2, dPar3, dSetT, dLc, dYes, dSl, dNo, dSome, dRev, dNev, dSset, dCount, dIndex, dLrg1, dLrg2, dTwo, un_non, un_int, un_bl, un_str, un_lst, un_tup, un_obj, un_dct, un_scr, un_olst, un_oll, un_oobj, un_mv, un_m, un_p, pl_non, pl_int, pl_bl, pl_str, pl_lst, pl_tup, pl_obj, pl_dct, pl_scr, pl_m, pl_p, fzm_non, fzm_int, fzm_bl, fzm_lst, fzm_tup, fzm_obj, fzm_scr, fzm_olst, fzm_oll, fzm_oobj, fzm_m, frz_non, frz_int, frz_bl, frz_str, frz_lst, frz_tup, frz_obj, frz_dct, frz_scr, frz_olst, frz_oll, frz_m, fz_no, fz_tr, see_no, see_tr, asB_bl, asI_int, asgD_non, asgD_int, asgD_bl, asgD_lst, asgD_tup, asgD_obj, asgD_mv, asgD_m, it_lst, it_olst, it_scr, li_lst, li_olst, pit_lst, pit_scr, sz_lst, sz_olst, sz_oll, sz_scr, sz_tup, ad_int, ad_ll, ad_oo, ad_lo, ad_ol, mu_int, mu_l, mu_o, gI_int, gI0_int, gI2_int, ii_eqv, co_int, co_bl, co_non, co_row, co_rowO, co_nil, co_nilO, co_ps, co_p, co_p2, co_rows, ev_ll, ev_ol, ev_lo, ev_oo, ev_ln, ev_lno, ev_on, ev_ono, in_ps, in_row, gEq, gNe, gIn, gNotIn, g1, g2, gLen, gList, δof, List.getElem?_cons_zero, List.getElem?_cons_succ, List.getElem?_nil, List.set_cons_zero, List.set_cons_succ, List.map_cons, List.map_nil, List.length_cons, List.length_nil, List.replicate_succ, List.replicate_zero, List.cons_append, List.nil_append, Option.bind_some, Option.bind_none, List.all_cons, List.all_nil, List.append_nil, Nat.reduceAdd, Nat.reduceSub, true_and, and_true, Bool.and_true, Bool.true_and, Bool.not_true]
      refine ⟨ys, n, rfl, hy, ?_⟩
      cases ky : ys.all (kB n) with
      | false =>
        rw [ky] at h
        exact h
      | true =>
        rw [ky] at h
        simp only [dSeq, dIfS, dT, dTn, dTa, dTo, dOp, dVar, dC, dFz_eq, dCB, dCons, dNil, dCall, dCallB, dMeth, dMethB, dSet, dApp, dExt, dRet, dRetM, dNx, dDrop, dNeg, dAnd, dOr, dNot, dIf, dCh, dCh3, dU, dTup, dLst, dFld, dIsi, dIl, dIe, dIr1, dIr2, dIv1, dgN, dgT, putAll, dFor, dPar2, dPar3, dSetT, dLc, dYes, dSl, dNo, dSome, dRev, dNev, dSset, dCount, dIndex, dLrg1, dLrg2, dTwo, un_non, un_int, un_bl, un_str, un_lst, un_tup, un_obj, un_dct, un_scr, un_olst, un_oll, un_oobj, un_mv, un_m, un_p, pl_non, pl_int, pl_bl, pl_str, pl_lst, pl_tup, pl_obj, pl_dct, pl_scr, pl_m, pl_p, fzm_non, fzm_int, fzm_bl, fzm_lst, fzm_tup, fzm_obj, fzm_scr, fzm_olst, fzm_oll, fzm_oobj, fzm_m, frz_non, frz_int, frz_bl, frz_str, frz_lst, frz_tup, frz_obj, frz_dct, frz_scr, frz_olst, frz_oll, frz_m, fz_no, fz_tr, see_no, see_tr, asB_bl, asI_int, asgD_non, asgD_int, asgD_bl, asgD_lst, asgD_tup, asgD_obj, asgD_mv, asgD_m, it_lst, it_olst, it_scr, li_lst, li_olst, pit_lst, pit_scr, sz_lst, sz_olst, sz_oll, sz_scr, sz_tup, ad_int, ad_ll, ad_oo, ad_lo, ad_ol, mu_int, mu_l, mu_o, gI_int, gI0_int, gI2_int, ii_eqv, co_int, co_bl, co_non, co_row, co_rowO, co_nil, co_nilO, co_ps, co_p, co_p2, co_rows, ev_ll, ev_ol, ev_lo, ev_oo, ev_ln, ev_lno, ev_on, ev_ono, in_ps, in_row, gEq, gNe, gIn, gNotIn, g1, g2, gLen, gList, δof, List.getElem?_cons_zero, List.getElem?_cons_succ, List.getElem?_nil, List.set_cons_zero, List.set_cons_succ, List.map_cons, List.map_nil, List.length_cons, List.length_nil, List.replicate_succ, List.replicate_zero, List.cons_append, List.nil_append, Option.bind_some, Option.bind_none, List.all_cons, List.all_nil, List.append_nil, Nat.reduceAdd, Nat.reduceSub, true_and, and_true, Bool.and_true, Bool.true_and, Bool.not_true]
        refine same2_f (K := K) (P := fun b => Q (.bl b)) (fun z => z) (fun zs e5 e6 _ z => ?_) xs ys _ _ hy e.symm h
        simp only [dSeq, dIfS, dT, dTn, dTa, dTo, dOp, dVar, dC, dFz_eq, dCB, dCons, dNil, dCall, dCallB, dMeth, dMethB, dSet, dApp, dExt, dRet, dRetM, dNx, dDrop, dNeg, dAnd, dOr, dNot, dIf, dCh, dCh3, dU, dTup, dLst, dFld, dIsi, dIl, dIe, dIr1, dIr2, dIv1, dgN, dgT, putAll, dFor, dPar2, dPar3, dSetT, dLc, dYes, dSl, dNo, dSome, dRev, dNev, dSset, dCount, dIndex, dLrg1, dLrg2, dTwo, un_non, un_int, un_bl, un_str, un_lst, un_tup, un_obj, un_dct, un_scr, un_olst, un_oll, un_oobj, un_mv, un_m, un_p, pl_non, pl_int, pl_bl, pl_str, pl_lst, pl_tup, pl_obj, pl_dct, pl_scr, pl_m, pl_p, fzm_non, fzm_int, fzm_bl, fzm_lst, fzm_tup, fzm_obj, fzm_scr, fzm_olst, fzm_oll, fzm_oobj, fzm_m, frz_non, frz_int, frz_bl, frz_str, frz_lst, frz_tup, frz_obj, frz_dct, frz_scr, frz_olst, frz_oll, frz_m, fz_no, fz_tr, see_no, see_tr, asB_bl, asI_int, asgD_non, asgD_int, asgD_bl, asgD_lst, asgD_tup, asgD_obj, asgD_mv, asgD_m, it_lst, it_olst, it_scr, li_lst, li_olst, pit_lst, pit_scr, sz_lst, sz_olst, sz_oll, sz_scr, sz_tup, ad_int, ad_ll, ad_oo, ad_lo, ad_ol, mu_int, mu_l, mu_o, gI_int, gI0_int, gI2_int, ii_eqv, co_int, co_bl, co_non, co_row, co_rowO, co_nil, co_nilO, co_ps, co_p, co_p2, co_rows, ev_ll, ev_ol, ev_lo, ev_oo, ev_ln, ev_lno, ev_on, ev_ono, in_ps, in_row, gEq, gNe, gIn, gNotIn, g1, g2, gLen, gList, δof, List.getElem?_cons_zero, List.getElem?_cons_succ, List.getElem?_nil, List.set_cons_zero, List.set_cons_succ, List.map_cons, List.map_nil, List.length_cons, List.length_nil, List.replicate_succ, List.replicate_zero, List.cons_append, List.nil_append, Option.bind_some, Option.bind_none, List.all_cons, List.all_nil, List.append_nil, Nat.reduceAdd, Nat.reduceSub, true_and, and_true, Bool.and_true, Bool.true_and]
        exact z
  · rw [decide_eq_false e] at h
    rw [decide_eq_false (by omega)]
    exact h
end J
/-! P7: small things for the laws' last defs -/
namespace J
open PySem PySem.Spec PyProof.Rows L2
theorem AnsOk.io {K : PySem.W.Frag} (t : AnsOk K) (A B : Str) (b : Bool) {gs : List (Str × D)} {P : D → Prop} (h : P (.bl b)) (hb : (decide (A = B) || decide (B = "Answer")) = b := by decide) (hA : A ∈ ansN := by decide) (hB : B ∈ ansM := by decide) : gIsi K (.ref (He.ga K B)) (.oobj (He.ga K A) gs) P := by
  refine t.isio A B ?_ hA hB
  rw [hb]
  exact h
theorem AnsOk.ii {K : PySem.W.Frag} (t : AnsOk K) (A B : Str) (b : Bool) {gs : List (Str × D)} {P : D → Prop} (h : P (.bl b)) (hb : (decide (A = B) || decide (B = "Answer")) = b := by decide) (hA : A ∈ ansN := by decide) (hB : B ∈ ansM := by decide) : gIsi K (.ref (He.ga K B)) (.obj (He.ga K A) gs) P := by
  refine t.isi A B ?_ hA hB
  rw [hb]
  exact h
theorem co_two {xs ys : List Int} : D.cmpOk (.lst [.lst (xs.map .int), .lst (ys.map .int)]) = true := (cm_lst (n := 1) fun d hd => by
  simp only [List.mem_cons, List.not_mem_nil, or_false] at hd
  rcases hd with rfl | rfl <;> exact cm_row _).ok (by decide)
theorem co_twoO {xs ys : List Int} : D.cmpOk (.olst [.lst (xs.map .int), .lst (ys.map .int)]) = true := (cm_olst (n := 1) fun d hd => by
  simp only [List.mem_cons, List.not_mem_nil, or_false] at hd
  rcases hd with rfl | rfl <;> exact cm_row _).ok (by decide)
theorem ev_two {xs ys zs ws : List Int} : PyData.eqv (D.py (.lst [.lst (xs.map .int), .lst (ys.map .int)])) (D.py (.olst [.lst (zs.map .int), .lst (ws.map .int)])) = (decide (xs = zs) && (decide (ys = ws) && true)) := by
  show (PyData.eqv (D.py (.lst (xs.map .int))) (D.py (.lst (zs.map .int))) && (PyData.eqv (D.py (.lst (ys.map .int))) (D.py (.lst (ws.map .int))) && true)) = _
  rw [ev_ll, ev_ll]
theorem any3 {p q r : Bool} {P : D → Prop} : gAny [.olst [.bl p, .bl q, .bl r]] P = P (.bl ([p, q, r].any id)) := rfl
theorem un_newO {C : Addr} {gs : List (Str × D)} : D.un (.oobj C gs) = .oobj C gs := rfl
theorem frz_oobj {C : Addr} {gs : List (Str × D)} : frz (.oobj C gs) = .obj C (gs.map fun g => (g.1, frz1 g.2)) := rfl
theorem no_pairs {n : Int} : PairsOk n [] := ⟨List.nodup_nil, by decide, fun q hq => by cases hq⟩
theorem cpB_of {n : Int} {ps : List (Int × Int)} {a b : Int} (ha : 0 ≤ a ∧ a < n) (hb : 0 ≤ b ∧ b < n) (hab : a ≤ b) (hm : mnd ps a b = true) : cpB n ps a b = true := by
  unfold cpB kB
  rw [decide_eq_true ha, decide_eq_true hb]
  by_cases e : a = b
  · simp [e]
  · have h1 : ¬ b < a := by omega
    have h2 : b > a := by omega
    unfold mnd at hm
    rw [decide_eq_false e, if_neg h1, if_pos h2, Bool.false_or] at hm
    rw [hm]
    simp
theorem okc_cpB {n : Int} {ps : List (Int × Int)} {a b : Int} (hab : a ≤ b) : okc n (mnd ps) a b = cpB n ps a b := by
  unfold okc cpB
  rw [decide_eq_true hab, Bool.and_true]
  congr 1
  unfold mnd
  by_cases e : a = b
  · simp [e]
  · have h1 : ¬ b < a := by omega
    have h2 : b > a := by omega
    rw [if_neg h1, if_pos h2]
end J
/-! Q2: what law k02 asks -/
namespace J
open PySem PySem.Spec PyProof.Rows L2
def G_law_due (K : PySem.W.Frag) : GD := fun ds P => ∃ n ps xs ys f, ds = [.int n, .lst (ps.map pD), rD xs, rD ys, f] ∧ (xs.length ≤ 1000 ∧ ys.length ≤ 1000) ∧
  ((∃ pl, f = sameD K pl ∧ P (.bl (shw (mnd ps) pl xs ys))) ∨ (∃ a b, f = unD K a b ∧ P (.bl (cpB n ps a b && !decide (prt a b xs = prt a b ys)))))
/-! ### law_due -/
abbrev N_law_due : List Str := ["_law_kinds", "_law_pairs", "_law_one", "_law_other", "_law_found", "_law_now", "_law_place"]
def T_law_due_f1 (K : PySem.W.Frag) : DS := (dSeq (dIfS (dTo (dT (dIsi K (.type "bool") (dVar 6))) (dTo (dTn (dT (dIsi K (.type "int") (dVar 6)))) (dTn (dT (dCh gLe gLt (dC (.int 0)) (dVar 6) (dOp (gI0 fun i j => .int (i - j)) (dCB gLen (dCons (dVar 5) dNil)) (dC (.int 1)))))))) (dRet (dC (.bl false))) dNx)
  (dSeq (dIfS (dT (dCallB (G_law_mind K) (dCons (dVar 1) (dCons (dOp gIx (dVar 5) (dVar 6)) (dCons (dOp gIx (dVar 5) (dOp gAdd (dVar 6) (dC (.int 1)))) dNil))))) (dRet (dC (.bl false))) dNx)
  (dSwap 5 (dVar 6) (dOp gAdd (dVar 6) (dC (.int 1))) (dTup (dCons (dOp gIx (dVar 5) (dOp gAdd (dVar 6) (dC (.int 1)))) (dCons (dOp gIx (dVar 5) (dVar 6)) dNil))))))
def T_law_due (K : PySem.W.Frag) : DS := (dSeq (dIfS (dT (dIsi K (.ref (He.ga K "Unlike")) (dVar 4))) (dSeq (dIfS (dTn (dT (dCall (G_law_couple K) (dCons (dVar 0) (dCons (dVar 1) (dCons (dFld K "one" (dVar 4)) (dCons (dFld K "other" (dVar 4)) dNil))))))) (dRet (dC (.bl false))) dNx)
  (dRet (dOp gNe (dCall (G_law_part K) (dCons (dVar 2) (dCons (dFld K "one" (dVar 4)) (dCons (dFld K "other" (dVar 4)) dNil)))) (dCall (G_law_part K) (dCons (dVar 3) (dCons (dFld K "one" (dVar 4)) (dCons (dFld K "other" (dVar 4)) dNil))))))) dNx)
  (dSeq (dSet 5 (dCB gList (dCons (dVar 2) dNil)))
  (dSeq (dFor (dIl (dFld K "places" (dVar 4))) (dgN 6) (T_law_due_f1 K))
  (dRet (dOp gEq (dVar 5) (dVar 3))))))
theorem due_f {K : PySem.W.Frag} {ps : List (Int × Int)} {d0 one f : D} {ys : List Int} {E : EndsD} {R : Bool → Prop} (h1 : R false → E.rt (.bl false)) (h2 : ∀ zs e6, R (decide (zs = ys)) → E.nx [.tr d0, .tr (.lst (ps.map pD)), .tr one, .tr (rD ys), .tr f, .tr (.olst (zs.map .int)), e6]) :
    ∀ (pl xs : List Int) (e6 : DV), xs.length ≤ 1000 → R (shw (mnd ps) pl xs ys) → forGo (dgN 6) (T_law_due_f1 K) E (pl.map .int) [.tr d0, .tr (.lst (ps.map pD)), .tr one, .tr (rD ys), .tr f, .tr (.olst (xs.map .int)), e6]
  | [], xs, e6, hl, h => h2 xs e6 h
  | p :: pl, xs, e6, hl, h => by
    refine forGo_op fun N hN => ?_
    simp only [T_law_due_f1, rD, dSeq, dIfS, dT, dTn, dTa, dTo, dOp, dVar, dC, dFz_eq, dCB, dCons, dNil, dCall, dCallB, dMeth, dMethB, dSet, dApp, dExt, dRet, dRetM, dNx, dDrop, dNeg, dAnd, dOr, dNot, dIf, dCh, dCh3, dU, dTup, dLst, dFld, dIsi, dIl, dIe, dIr1, dIr2, dIv1, dgN, dgT, putAll, dFor, dPar2, dPar3, dSetT, dLc, dYes, dSl, dNo, dSome, dRev, dNev, dSset, dCount, dIndex, dLrg1, dLrg2, dTwo, un_non, un_int, un_bl, un_str, un_lst, un_tup, un_obj, un_dct, un_scr, un_olst, un_oll, un_oobj, un_mv, un_m, un_p, pl_non, pl_int, pl_bl, pl_str, pl_lst, pl_tup, pl_obj, pl_dct, pl_scr, pl_m, pl_p, fzm_non, fzm_int, fzm_bl, fzm_lst, fzm_tup, fzm_obj, fzm_scr, fzm_olst, fzm_oll, fzm_oobj, fzm_m, frz_non, frz_int, frz_bl, frz_str, frz_lst, frz_tup, frz_obj, frz_dct, frz_scr, frz_olst, frz_oll, frz_m, fz_no, fz_tr, see_no, see_tr, asB_bl, asI_int, asgD_non, asgD_int, asgD_bl, asgD_lst, asgD_tup, asgD_obj, asgD_mv, asgD_m, it_lst, it_olst, it_scr, li_lst, li_olst, pit_lst, pit_scr, sz_lst, sz_olst, sz_oll, sz_scr, sz_tup, ad_int, ad_ll, ad_oo, ad_lo, ad_ol, mu_int, mu_l, mu_o, gI_int, gI0_int, gI2_int, ii_eqv, co_int, co_bl, co_non, co_row, co_rowO, co_nil, co_nilO, co_ps, co_p, co_p2, co_rows, ev_ll, ev_ol, ev_lo, ev_oo, ev_ln, ev_lno, ev_on, ev_ono, in_ps, in_row, gEq, gNe, gIn, gNotIn, g1, g2, gLen, gList, δof, List.getElem?_cons_zero, List.getElem?_cons_succ, List.getElem?_nil, List.set_cons_zero, List.set_cons_succ, List.map_cons, List.map_nil, List.length_cons, List.length_nil, List.replicate_succ, List.replicate_zero, List.cons_append, List.nil_append, Option.bind_some, Option.bind_none, List.all_cons, List.all_nil, List.append_nil, Nat.reduceAdd, Nat.reduceSub, true_and, and_true, Bool.and_true, Bool.true_and, List.length_map]
    refine ⟨false, rfl, ?_⟩
    simp only [dSeq, dIfS, dT, dTn, dTa, dTo, dOp, dVar, dC, dFz_eq, dCB, dCons, dNil, dCall, dCallB, dMeth, dMethB, dSet, dApp, dExt, dRet, dRetM, dNx, dDrop, dNeg, dAnd, dOr, dNot, dIf, dCh, dCh3, dU, dTup, dLst, dFld, dIsi, dIl, dIe, dIr1, dIr2, dIv1, dgN, dgT, putAll, dFor, dPar2, dPar3, dSetT, dLc, dYes, dSl, dNo, dSome, dRev, dNev, dSset, dCount, dIndex, dLrg1, dLrg2, dTwo, un_non, un_int, un_bl, un_str, un_lst, un_tup, un_obj, un_dct, un_scr, un_olst, un_oll, un_oobj, un_mv, un_m, un_p, pl_non, pl_int, pl_bl, pl_str, pl_lst, pl_tup, pl_obj, pl_dct, pl_scr, pl_m, pl_p, fzm_non, fzm_int, fzm_bl, fzm_lst, fzm_tup, fzm_obj, fzm_scr, fzm_olst, fzm_oll, fzm_oobj, fzm_m, frz_non, frz_int, frz_bl, frz_str, frz_lst, frz_tup, frz_obj, frz_dct, frz_scr, frz_olst, frz_oll, frz_m, fz_no, fz_tr, see_no, see_tr, asB_bl, asI_int, asgD_non, asgD_int, asgD_bl, asgD_lst, asgD_tup, asgD_obj, asgD_mv, asgD_m, it_lst, it_olst, it_scr, li_lst, li_olst, pit_lst, pit_scr, sz_lst, sz_olst, sz_oll, sz_scr, sz_tup, ad_int, ad_ll, ad_oo, ad_lo, ad_ol, mu_int, mu_l, mu_o, gI_int, gI0_int, gI2_int, ii_eqv, co_int, co_bl, co_non, co_row, co_rowO, co_nil, co_nilO, co_ps, co_p, co_p2, co_rows, ev_ll, ev_ol, ev_lo, ev_oo, ev_ln, ev_lno, ev_on, ev_ono, in_ps, in_row, gEq, gNe, gIn, gNotIn, g1, g2, gLen, gList, δof, List.getElem?_cons_zero, List.getElem?_cons_succ, List.getElem?_nil, List.set_cons_zero, List.set_cons_succ, List.map_cons, List.map_nil, List.length_cons, List.length_nil, List.replicate_succ, List.replicate_zero, List.cons_append, List.nil_append, Option.bind_some, Option.bind_none, List.all_cons, List.all_nil, List.append_nil, Nat.reduceAdd, Nat.reduceSub, true_and, and_true, Bool.and_true, Bool.true_and]
    refine ⟨true, rfl, ?_⟩
    simp only [dSeq, dIfS, dT, dTn, dTa, dTo, dOp, dVar, dC, dFz_eq, dCB, dCons, dNil, dCall, dCallB, dMeth, dMethB, dSet, dApp, dExt, dRet, dRetM, dNx, dDrop, dNeg, dAnd, dOr, dNot, dIf, dCh, dCh3, dU, dTup, dLst, dFld, dIsi, dIl, dIe, dIr1, dIr2, dIv1, dgN, dgT, putAll, dFor, dPar2, dPar3, dSetT, dLc, dYes, dSl, dNo, dSome, dRev, dNev, dSset, dCount, dIndex, dLrg1, dLrg2, dTwo, un_non, un_int, un_bl, un_str, un_lst, un_tup, un_obj, un_dct, un_scr, un_olst, un_oll, un_oobj, un_mv, un_m, un_p, pl_non, pl_int, pl_bl, pl_str, pl_lst, pl_tup, pl_obj, pl_dct, pl_scr, pl_m, pl_p, fzm_non, fzm_int, fzm_bl, fzm_lst, fzm_tup, fzm_obj, fzm_scr, fzm_olst, fzm_oll, fzm_oobj, fzm_m, frz_non, frz_int, frz_bl, frz_str, frz_lst, frz_tup, frz_obj, frz_dct, frz_scr, frz_olst, frz_oll, frz_m, fz_no, fz_tr, see_no, see_tr, asB_bl, asI_int, asgD_non, asgD_int, asgD_bl, asgD_lst, asgD_tup, asgD_obj, asgD_mv, asgD_m, it_lst, it_olst, it_scr, li_lst, li_olst, pit_lst, pit_scr, sz_lst, sz_olst, sz_oll, sz_scr, sz_tup, ad_int, ad_ll, ad_oo, ad_lo, ad_ol, mu_int, mu_l, mu_o, gI_int, gI0_int, gI2_int, ii_eqv, co_int, co_bl, co_non, co_row, co_rowO, co_nil, co_nilO, co_ps, co_p, co_p2, co_rows, ev_ll, ev_ol, ev_lo, ev_oo, ev_ln, ev_lno, ev_on, ev_ono, in_ps, in_row, gEq, gNe, gIn, gNotIn, g1, g2, gLen, gList, δof, List.getElem?_cons_zero, List.getElem?_cons_succ, List.getElem?_nil, List.set_cons_zero, List.set_cons_succ, List.map_cons, List.map_nil, List.length_cons, List.length_nil, List.replicate_succ, List.replicate_zero, List.cons_append, List.nil_append, Option.bind_some, Option.bind_none, List.all_cons, List.all_nil, List.append_nil, Nat.reduceAdd, Nat.reduceSub, true_and, and_true, Bool.and_true, Bool.true_and, Bool.not_true]
    rw [shw_cons] at h
    by_cases c0 : 0 ≤ p
    · rw [decide_eq_true c0]
      simp only [dSeq, dIfS, dT, dTn, dTa, dTo, dOp, dVar, dC, dFz_eq, dCB, dCons, dNil, dCall, dCallB, dMeth, dMethB, dSet, dApp, dExt, dRet, dRetM, dNx, dDrop, dNeg, dAnd, dOr, dNot, dIf, dCh, dCh3, dU, dTup, dLst, dFld, dIsi, dIl, dIe, dIr1, dIr2, dIv1, dgN, dgT, putAll, dFor, dPar2, dPar3, dSetT, dLc, dYes, dSl, dNo, dSome, dRev, dNev, dSset, dCount, dIndex, dLrg1, dLrg2, dTwo, un_non, un_int, un_bl, un_str, un_lst, un_tup, un_obj, un_dct, un_scr, un_olst, un_oll, un_oobj, un_mv, un_m, un_p, pl_non, pl_int, pl_bl, pl_str, pl_lst, pl_tup, pl_obj, pl_dct, pl_scr, pl_m, pl_p, fzm_non, fzm_int, fzm_bl, fzm_lst, fzm_tup, fzm_obj, fzm_scr, fzm_olst, fzm_oll, fzm_oobj, fzm_m, frz_non, frz_int, frz_bl, frz_str, frz_lst, frz_tup, frz_obj, frz_dct, frz_scr, frz_olst, frz_oll, frz_m, fz_no, fz_tr, see_no, see_tr, asB_bl, asI_int, asgD_non, asgD_int, asgD_bl, asgD_lst, asgD_tup, asgD_obj, asgD_mv, asgD_m, it_lst, it_olst, it_scr, li_lst, li_olst, pit_lst, pit_scr, sz_lst, sz_olst, sz_oll, sz_scr, sz_tup, ad_int, ad_ll, ad_oo, ad_lo, ad_ol, mu_int, mu_l, mu_o, gI_int, gI0_int, gI2_int, ii_eqv, co_int, co_bl, co_non, co_row, co_rowO, co_nil, co_nilO, co_ps, co_p, co_p2, co_rows, ev_ll, ev_ol, ev_lo, ev_oo, ev_ln, ev_lno, ev_on, ev_ono, in_ps, in_row, gEq, gNe, gIn, gNotIn, g1, g2, gLen, gList, δof, List.getElem?_cons_zero, List.getElem?_cons_succ, List.getElem?_nil, List.set_cons_zero, List.set_cons_succ, List.map_cons, List.map_nil, List.length_cons, List.length_nil, List.replicate_succ, List.replicate_zero, List.cons_append, List.nil_append, Option.bind_some, Option.bind_none, List.all_cons, List.all_nil, List.append_nil, Nat.reduceAdd, Nat.reduceSub, true_and, and_true, Bool.and_true, Bool.true_and]
      by_cases c1 : p < (xs.length : Int) - 1
      · rw [decide_eq_true c1]
        simp only [dSeq, dIfS, dT, dTn, dTa, dTo, dOp, dVar, dC, dFz_eq, dCB, dCons, dNil, dCall, dCallB, dMeth, dMethB, dSet, dApp, dExt, dRet, dRetM, dNx, dDrop, dNeg, dAnd, dOr, dNot, dIf, dCh, dCh3, dU, dTup, dLst, dFld, dIsi, dIl, dIe, dIr1, dIr2, dIv1, dgN, dgT, putAll, dFor, dPar2, dPar3, dSetT, dLc, dYes, dSl, dNo, dSome, dRev, dNev, dSset, dCount, dIndex, dLrg1, dLrg2, dTwo, un_non, un_int, un_bl, un_str, un_lst, un_tup, un_obj, un_dct, un_scr, un_olst, un_oll, un_oobj, un_mv, un_m, un_p, pl_non, pl_int, pl_bl, pl_str, pl_lst, pl_tup, pl_obj, pl_dct, pl_scr, pl_m, pl_p, fzm_non, fzm_int, fzm_bl, fzm_lst, fzm_tup, fzm_obj, fzm_scr, fzm_olst, fzm_oll, fzm_oobj, fzm_m, frz_non, frz_int, frz_bl, frz_str, frz_lst, frz_tup, frz_obj, frz_dct, frz_scr, frz_olst, frz_oll, frz_m, fz_no, fz_tr, see_no, see_tr, asB_bl, asI_int, asgD_non, asgD_int, asgD_bl, asgD_lst, asgD_tup, asgD_obj, asgD_mv, asgD_m, it_lst, it_olst, it_scr, li_lst, li_olst, pit_lst, pit_scr, sz_lst, sz_olst, sz_oll, sz_scr, sz_tup, ad_int, ad_ll, ad_oo, ad_lo, ad_ol, mu_int, mu_l, mu_o, gI_int, gI0_int, gI2_int, ii_eqv, co_int, co_bl, co_non, co_row, co_rowO, co_nil, co_nilO, co_ps, co_p, co_p2, co_rows, ev_ll, ev_ol, ev_lo, ev_oo, ev_ln, ev_lno, ev_on, ev_ono, in_ps, in_row, gEq, gNe, gIn, gNotIn, g1, g2, gLen, gList, δof, List.getElem?_cons_zero, List.getElem?_cons_succ, List.getElem?_nil, List.set_cons_zero, List.set_cons_succ, List.map_cons, List.map_nil, List.length_cons, List.length_nil, List.replicate_succ, List.replicate_zero, List.cons_append, List.nil_append, Option.bind_some, Option.bind_none, List.all_cons, List.all_nil, List.append_nil, Nat.reduceAdd, Nat.reduceSub, true_and, and_true, Bool.and_true, Bool.true_and, Bool.not_true]
        obtain ⟨k, rfl⟩ := Int.eq_ofNat_of_zero_le c0
        obtain ⟨A, a, b, B, rfl, rfl⟩ := split_at (xs := xs) (p := k) (by omega)
        have q : ((A.length : Int) + 1) = ((A.length + 1 : Nat) : Int) := by omega
        have e1 : ((A ++ a :: b :: B).map D.int)[A.length]? = some (.int a) := by rw [List.getElem?_map, at_mid]; rfl
        have e2 : ((A ++ a :: b :: B).map D.int)[A.length + 1]? = some (.int b) := by rw [List.getElem?_map, at_mid1]; rfl
        simp only [q]
        refine ix_olst ⟨_, at_nat e1, ?_⟩
        simp only [dSeq, dIfS, dT, dTn, dTa, dTo, dOp, dVar, dC, dFz_eq, dCB, dCons, dNil, dCall, dCallB, dMeth, dMethB, dSet, dApp, dExt, dRet, dRetM, dNx, dDrop, dNeg, dAnd, dOr, dNot, dIf, dCh, dCh3, dU, dTup, dLst, dFld, dIsi, dIl, dIe, dIr1, dIr2, dIv1, dgN, dgT, putAll, dFor, dPar2, dPar3, dSetT, dLc, dYes, dSl, dNo, dSome, dRev, dNev, dSset, dCount, dIndex, dLrg1, dLrg2, dTwo, un_non, un_int, un_bl, un_str, un_lst, un_tup, un_obj, un_dct, un_scr, un_olst, un_oll, un_oobj, un_mv, un_m, un_p, pl_non, pl_int, pl_bl, pl_str, pl_lst, pl_tup, pl_obj, pl_dct, pl_scr, pl_m, pl_p, fzm_non, fzm_int, fzm_bl, fzm_lst, fzm_tup, fzm_obj, fzm_scr, fzm_olst, fzm_oll, fzm_oobj, fzm_m, frz_non, frz_int, frz_bl, frz_str, frz_lst, frz_tup, frz_obj, frz_dct, frz_scr, frz_olst, frz_oll, frz_m, fz_no, fz_tr, see_no, see_tr, asB_bl, asI_int, asgD_non, asgD_int, asgD_bl, asgD_lst, asgD_tup, asgD_obj, asgD_mv, asgD_m, it_lst, it_olst, it_scr, li_lst, li_olst, pit_lst, pit_scr, sz_lst, sz_olst, sz_oll, sz_scr, sz_tup, ad_int, ad_ll, ad_oo, ad_lo, ad_ol, mu_int, mu_l, mu_o, gI_int, gI0_int, gI2_int, ii_eqv, co_int, co_bl, co_non, co_row, co_rowO, co_nil, co_nilO, co_ps, co_p, co_p2, co_rows, ev_ll, ev_ol, ev_lo, ev_oo, ev_ln, ev_lno, ev_on, ev_ono, in_ps, in_row, gEq, gNe, gIn, gNotIn, g1, g2, gLen, gList, δof, List.getElem?_cons_zero, List.getElem?_cons_succ, List.getElem?_nil, List.set_cons_zero, List.set_cons_succ, List.map_cons, List.map_nil, List.length_cons, List.length_nil, List.replicate_succ, List.replicate_zero, List.cons_append, List.nil_append, Option.bind_some, Option.bind_none, List.all_cons, List.all_nil, List.append_nil, Nat.reduceAdd, Nat.reduceSub, true_and, and_true, Bool.and_true, Bool.true_and]
        refine ix_olst ⟨_, at_nat e2, ?_⟩
        simp only [dSeq, dIfS, dT, dTn, dTa, dTo, dOp, dVar, dC, dFz_eq, dCB, dCons, dNil, dCall, dCallB, dMeth, dMethB, dSet, dApp, dExt, dRet, dRetM, dNx, dDrop, dNeg, dAnd, dOr, dNot, dIf, dCh, dCh3, dU, dTup, dLst, dFld, dIsi, dIl, dIe, dIr1, dIr2, dIv1, dgN, dgT, putAll, dFor, dPar2, dPar3, dSetT, dLc, dYes, dSl, dNo, dSome, dRev, dNev, dSset, dCount, dIndex, dLrg1, dLrg2, dTwo, un_non, un_int, un_bl, un_str, un_lst, un_tup, un_obj, un_dct, un_scr, un_olst, un_oll, un_oobj, un_mv, un_m, un_p, pl_non, pl_int, pl_bl, pl_str, pl_lst, pl_tup, pl_obj, pl_dct, pl_scr, pl_m, pl_p, fzm_non, fzm_int, fzm_bl, fzm_lst, fzm_tup, fzm_obj, fzm_scr, fzm_olst, fzm_oll, fzm_oobj, fzm_m, frz_non, frz_int, frz_bl, frz_str, frz_lst, frz_tup, frz_obj, frz_dct, frz_scr, frz_olst, frz_oll, frz_m, fz_no, fz_tr, see_no, see_tr, asB_bl, asI_int, asgD_non, asgD_int, asgD_bl, asgD_lst, asgD_tup, asgD_obj, asgD_mv, asgD_m, it_lst, it_olst, it_scr, li_lst, li_olst, pit_lst, pit_scr, sz_lst, sz_olst, sz_oll, sz_scr, sz_tup, ad_int, ad_ll, ad_oo, ad_lo, ad_ol, mu_int, mu_l, mu_o, gI_int, gI0_int, gI2_int, ii_eqv, co_int, co_bl, co_non, co_row, co_rowO, co_nil, co_nilO, co_ps, co_p, co_p2, co_rows, ev_ll, ev_ol, ev_lo, ev_oo, ev_ln, ev_lno, ev_on, ev_ono, in_ps, in_row, gEq, gNe, gIn, gNotIn, g1, g2, gLen, gList, δof, List.getElem?_cons_zero, List.getElem?_cons_succ, List.getElem?_nil, List.set_cons_zero, List.set_cons_succ, List.map_cons, List.map_nil, List.length_cons, List.length_nil, List.replicate_succ, List.replicate_zero, List.cons_append, List.nil_append, Option.bind_some, Option.bind_none, List.all_cons, List.all_nil, List.append_nil, Nat.reduceAdd, Nat.reduceSub, true_and, and_true, Bool.and_true, Bool.true_and]
        refine ⟨ps, a, b, rfl, rfl, ?_⟩
        rw [xst_mid] at h
        cases hm : mnd ps a b with
        | true =>
          rw [hm] at h
          exact h1 h
        | false =>
          rw [hm] at h
          simp only [dSeq, dIfS, dT, dTn, dTa, dTo, dOp, dVar, dC, dFz_eq, dCB, dCons, dNil, dCall, dCallB, dMeth, dMethB, dSet, dApp, dExt, dRet, dRetM, dNx, dDrop, dNeg, dAnd, dOr, dNot, dIf, dCh, dCh3, dU, dTup, dLst, dFld, dIsi, dIl, dIe, dIr1, dIr2, dIv1, dgN, dgT, putAll, dFor, dPar2, dPar3, dSetT, dLc, dYes, dSl, dNo, dSome, dRev, dNev, dSset, dCount, dIndex, dLrg1, dLrg2, dTwo, un_non, un_int, un_bl, un_str, un_lst, un_tup, un_obj, un_dct, un_scr, un_olst, un_oll, un_oobj, un_mv, un_m, un_p, pl_non, pl_int, pl_bl, pl_str, pl_lst, pl_tup, pl_obj, pl_dct, pl_scr, pl_m, pl_p, fzm_non, fzm_int, fzm_bl, fzm_lst, fzm_tup, fzm_obj, fzm_scr, fzm_olst, fzm_oll, fzm_oobj, fzm_m, frz_non, frz_int, frz_bl, frz_str, frz_lst, frz_tup, frz_obj, frz_dct, frz_scr, frz_olst, frz_oll, frz_m, fz_no, fz_tr, see_no, see_tr, asB_bl, asI_int, asgD_non, asgD_int, asgD_bl, asgD_lst, asgD_tup, asgD_obj, asgD_mv, asgD_m, it_lst, it_olst, it_scr, li_lst, li_olst, pit_lst, pit_scr, sz_lst, sz_olst, sz_oll, sz_scr, sz_tup, ad_int, ad_ll, ad_oo, ad_lo, ad_ol, mu_int, mu_l, mu_o, gI_int, gI0_int, gI2_int, ii_eqv, co_int, co_bl, co_non, co_row, co_rowO, co_nil, co_nilO, co_ps, co_p, co_p2, co_rows, ev_ll, ev_ol, ev_lo, ev_oo, ev_ln, ev_lno, ev_on, ev_ono, in_ps, in_row, gEq, gNe, gIn, gNotIn, g1, g2, gLen, gList, δof, List.getElem?_cons_zero, List.getElem?_cons_succ, List.getElem?_nil, List.set_cons_zero, List.set_cons_succ, List.map_cons, List.map_nil, List.length_cons, List.length_nil, List.replicate_succ, List.replicate_zero, List.cons_append, List.nil_append, Option.bind_some, Option.bind_none, List.all_cons, List.all_nil, List.append_nil, Nat.reduceAdd, Nat.reduceSub, true_and, and_true, Bool.and_true, Bool.true_and, dSwap, q]
          refine ix_olst ⟨_, at_nat e2, ?_⟩
          simp only [dSeq, dIfS, dT, dTn, dTa, dTo, dOp, dVar, dC, dFz_eq, dCB, dCons, dNil, dCall, dCallB, dMeth, dMethB, dSet, dApp, dExt, dRet, dRetM, dNx, dDrop, dNeg, dAnd, dOr, dNot, dIf, dCh, dCh3, dU, dTup, dLst, dFld, dIsi, dIl, dIe, dIr1, dIr2, dIv1, dgN, dgT, putAll, dFor, dPar2, dPar3, dSetT, dLc, dYes, dSl, dNo, dSome, dRev, dNev, dSset, dCount, dIndex, dLrg1, dLrg2, dTwo, un_non, un_int, un_bl, un_str, un_lst, un_tup, un_obj, un_dct, un_scr, un_olst, un_oll, un_oobj, un_mv, un_m, un_p, pl_non, pl_int, pl_bl, pl_str, pl_lst, pl_tup, pl_obj, pl_dct, pl_scr, pl_m, pl_p, fzm_non, fzm_int, fzm_bl, fzm_lst, fzm_tup, fzm_obj, fzm_scr, fzm_olst, fzm_oll, fzm_oobj, fzm_m, frz_non, frz_int, frz_bl, frz_str, frz_lst, frz_tup, frz_obj, frz_dct, frz_scr, frz_olst, frz_oll, frz_m, fz_no, fz_tr, see_no, see_tr, asB_bl, asI_int, asgD_non, asgD_int, asgD_bl, asgD_lst, asgD_tup, asgD_obj, asgD_mv, asgD_m, it_lst, it_olst, it_scr, li_lst, li_olst, pit_lst, pit_scr, sz_lst, sz_olst, sz_oll, sz_scr, sz_tup, ad_int, ad_ll, ad_oo, ad_lo, ad_ol, mu_int, mu_l, mu_o, gI_int, gI0_int, gI2_int, ii_eqv, co_int, co_bl, co_non, co_row, co_rowO, co_nil, co_nilO, co_ps, co_p, co_p2, co_rows, ev_ll, ev_ol, ev_lo, ev_oo, ev_ln, ev_lno, ev_on, ev_ono, in_ps, in_row, gEq, gNe, gIn, gNotIn, g1, g2, gLen, gList, δof, List.getElem?_cons_zero, List.getElem?_cons_succ, List.getElem?_nil, List.set_cons_zero, List.set_cons_succ, List.map_cons, List.map_nil, List.length_cons, List.length_nil, List.replicate_succ, List.replicate_zero, List.cons_append, List.nil_append, Option.bind_some, Option.bind_none, List.all_cons, List.all_nil, List.append_nil, Nat.reduceAdd, Nat.reduceSub, true_and, and_true, Bool.and_true, Bool.true_and]
          refine ix_olst ⟨_, at_nat e1, ?_⟩
          simp only [dSeq, dIfS, dT, dTn, dTa, dTo, dOp, dVar, dC, dFz_eq, dCB, dCons, dNil, dCall, dCallB, dMeth, dMethB, dSet, dApp, dExt, dRet, dRetM, dNx, dDrop, dNeg, dAnd, dOr, dNot, dIf, dCh, dCh3, dU, dTup, dLst, dFld, dIsi, dIl, dIe, dIr1, dIr2, dIv1, dgN, dgT, putAll, dFor, dPar2, dPar3, dSetT, dLc, dYes, dSl, dNo, dSome, dRev, dNev, dSset, dCount, dIndex, dLrg1, dLrg2, dTwo, un_non, un_int, un_bl, un_str, un_lst, un_tup, un_obj, un_dct, un_scr, un_olst, un_oll, un_oobj, un_mv, un_m, un_p, pl_non, pl_int, pl_bl, pl_str, pl_lst, pl_tup, pl_obj, pl_dct, pl_scr, pl_m, pl_p, fzm_non, fzm_int, fzm_bl, fzm_lst, fzm_tup, fzm_obj, fzm_scr, fzm_olst, fzm_oll, fzm_oobj, fzm_m, frz_non, frz_int, frz_bl, frz_str, frz_lst, frz_tup, frz_obj, frz_dct, frz_scr, frz_olst, frz_oll, frz_m, fz_no, fz_tr, see_no, see_tr, asB_bl, asI_int, asgD_non, asgD_int, asgD_bl, asgD_lst, asgD_tup, asgD_obj, asgD_mv, asgD_m, it_lst, it_olst, it_scr, li_lst, li_olst, pit_lst, pit_scr, sz_lst, sz_olst, sz_oll, sz_scr, sz_tup, ad_int, ad_ll, ad_oo, ad_lo, ad_ol, mu_int, mu_l, mu_o, gI_int, gI0_int, gI2_int, ii_eqv, co_int, co_bl, co_non, co_row, co_rowO, co_nil, co_nilO, co_ps, co_p, co_p2, co_rows, ev_ll, ev_ol, ev_lo, ev_oo, ev_ln, ev_lno, ev_on, ev_ono, in_ps, in_row, gEq, gNe, gIn, gNotIn, g1, g2, gLen, gList, δof, List.getElem?_cons_zero, List.getElem?_cons_succ, List.getElem?_nil, List.set_cons_zero, List.set_cons_succ, List.map_cons, List.map_nil, List.length_cons, List.length_nil, List.replicate_succ, List.replicate_zero, List.cons_append, List.nil_append, Option.bind_some, Option.bind_none, List.all_cons, List.all_nil, List.append_nil, Nat.reduceAdd, Nat.reduceSub, true_and, and_true, Bool.and_true, Bool.true_and, setAt, q]
          refine ⟨by decide, ?_⟩
          rw [ixN_nat (by rw [List.length_map]; omega)]
          simp only [dSeq, dIfS, dT, dTn, dTa, dTo, dOp, dVar, dC, dFz_eq, dCB, dCons, dNil, dCall, dCallB, dMeth, dMethB, dSet, dApp, dExt, dRet, dRetM, dNx, dDrop, dNeg, dAnd, dOr, dNot, dIf, dCh, dCh3, dU, dTup, dLst, dFld, dIsi, dIl, dIe, dIr1, dIr2, dIv1, dgN, dgT, putAll, dFor, dPar2, dPar3, dSetT, dLc, dYes, dSl, dNo, dSome, dRev, dNev, dSset, dCount, dIndex, dLrg1, dLrg2, dTwo, un_non, un_int, un_bl, un_str, un_lst, un_tup, un_obj, un_dct, un_scr, un_olst, un_oll, un_oobj, un_mv, un_m, un_p, pl_non, pl_int, pl_bl, pl_str, pl_lst, pl_tup, pl_obj, pl_dct, pl_scr, pl_m, pl_p, fzm_non, fzm_int, fzm_bl, fzm_lst, fzm_tup, fzm_obj, fzm_scr, fzm_olst, fzm_oll, fzm_oobj, fzm_m, frz_non, frz_int, frz_bl, frz_str, frz_lst, frz_tup, frz_obj, frz_dct, frz_scr, frz_olst, frz_oll, frz_m, fz_no, fz_tr, see_no, see_tr, asB_bl, asI_int, asgD_non, asgD_int, asgD_bl, asgD_lst, asgD_tup, asgD_obj, asgD_mv, asgD_m, it_lst, it_olst, it_scr, li_lst, li_olst, pit_lst, pit_scr, sz_lst, sz_olst, sz_oll, sz_scr, sz_tup, ad_int, ad_ll, ad_oo, ad_lo, ad_ol, mu_int, mu_l, mu_o, gI_int, gI0_int, gI2_int, ii_eqv, co_int, co_bl, co_non, co_row, co_rowO, co_nil, co_nilO, co_ps, co_p, co_p2, co_rows, ev_ll, ev_ol, ev_lo, ev_oo, ev_ln, ev_lno, ev_on, ev_ono, in_ps, in_row, gEq, gNe, gIn, gNotIn, g1, g2, gLen, gList, δof, List.getElem?_cons_zero, List.getElem?_cons_succ, List.getElem?_nil, List.set_cons_zero, List.set_cons_succ, List.map_cons, List.map_nil, List.length_cons, List.length_nil, List.replicate_succ, List.replicate_zero, List.cons_append, List.nil_append, Option.bind_some, Option.bind_none, List.all_cons, List.all_nil, List.append_nil, Nat.reduceAdd, Nat.reduceSub, true_and, and_true, Bool.and_true, Bool.true_and]
          rw [ixN_nat (by rw [List.length_set, List.length_map]; omega)]
          simp only [dSeq, dIfS, dT, dTn, dTa, dTo, dOp, dVar, dC, dFz_eq, dCB, dCons, dNil, dCall, dCallB, dMeth, dMethB, dSet, dApp, dExt, dRet, dRetM, dNx, dDrop, dNeg, dAnd, dOr, dNot, dIf, dCh, dCh3, dU, dTup, dLst, dFld, dIsi, dIl, dIe, dIr1, dIr2, dIv1, dgN, dgT, putAll, dFor, dPar2, dPar3, dSetT, dLc, dYes, dSl, dNo, dSome, dRev, dNev, dSset, dCount, dIndex, dLrg1, dLrg2, dTwo, un_non, un_int, un_bl, un_str, un_lst, un_tup, un_obj, un_dct, un_scr, un_olst, un_oll, un_oobj, un_mv, un_m, un_p, pl_non, pl_int, pl_bl, pl_str, pl_lst, pl_tup, pl_obj, pl_dct, pl_scr, pl_m, pl_p, fzm_non, fzm_int, fzm_bl, fzm_lst, fzm_tup, fzm_obj, fzm_scr, fzm_olst, fzm_oll, fzm_oobj, fzm_m, frz_non, frz_int, frz_bl, frz_str, frz_lst, frz_tup, frz_obj, frz_dct, frz_scr, frz_olst, frz_oll, frz_m, fz_no, fz_tr, see_no, see_tr, asB_bl, asI_int, asgD_non, asgD_int, asgD_bl, asgD_lst, asgD_tup, asgD_obj, asgD_mv, asgD_m, it_lst, it_olst, it_scr, li_lst, li_olst, pit_lst, pit_scr, sz_lst, sz_olst, sz_oll, sz_scr, sz_tup, ad_int, ad_ll, ad_oo, ad_lo, ad_ol, mu_int, mu_l, mu_o, gI_int, gI0_int, gI2_int, ii_eqv, co_int, co_bl, co_non, co_row, co_rowO, co_nil, co_nilO, co_ps, co_p, co_p2, co_rows, ev_ll, ev_ol, ev_lo, ev_oo, ev_ln, ev_lno, ev_on, ev_ono, in_ps, in_row, gEq, gNe, gIn, gNotIn, g1, g2, gLen, gList, δof, List.getElem?_cons_zero, List.getElem?_cons_succ, List.getElem?_nil, List.set_cons_zero, List.set_cons_succ, List.map_cons, List.map_nil, List.length_cons, List.length_nil, List.replicate_succ, List.replicate_zero, List.cons_append, List.nil_append, Option.bind_some, Option.bind_none, List.all_cons, List.all_nil, List.append_nil, Nat.reduceAdd, Nat.reduceSub, true_and, and_true, Bool.and_true, Bool.true_and]
          rw [hN]
          have z := due_f (K := K) (ps := ps) (d0 := d0) (one := one) (f := f) h1 h2 pl (A ++ b :: a :: B) (.tr (.int (A.length : Int))) (by rw [List.length_append, List.length_cons, List.length_cons] at hl ⊢; omega) h
          rw [← swap_mid, List.map_set, List.map_set] at z
          exact z
      · rw [xst_out fun z => c1 z.2] at h
        rw [decide_eq_false c1]
        exact h1 h
    · rw [xst_out fun z => c0 z.1] at h
      rw [decide_eq_false c0]
      exact h1 h
theorem rd_law_due {K : PySem.W.Frag} (t : AnsOk K) : ∀ ds Q, G_law_due K ds Q → T_law_due K { nx := fun _ => Q .non, rt := Q } (δof N_law_due.length ds) := by
  rintro _ Q ⟨n, ps, xs, ys, f, rfl, ⟨hx, hy⟩, ⟨pl, rfl, h⟩ | ⟨a, b, rfl, h⟩⟩
  · simp only [T_law_due, rD, dSeq, dIfS, dT, dTn, dTa, dTo, dOp, dVar, dC, dFz_eq, dCB, dCons, dNil, dCall, dCallB, dMeth, dMethB, dSet, dApp, dExt, dRet, dRetM, dNx, dDrop, dNeg, dAnd, dOr, dNot, dIf, dCh, dCh3, dU, dTup, dLst, dFld, dIsi, dIl, dIe, dIr1, dIr2, dIv1, dgN, dgT, putAll, dFor, dPar2, dPar3, dSetT, dLc, dYes, dSl, dNo, dSome, dRev, dNev, dSset, dCount, dIndex, dLrg1, dLrg2, dTwo, un_non, un_int, un_bl, un_str, un_lst, un_tup, un_obj, un_dct, un_scr, un_olst, un_oll, un_oobj, un_mv, un_m, un_p, pl_non, pl_int, pl_bl, pl_str, pl_lst, pl_tup, pl_obj, pl_dct, pl_scr, pl_m, pl_p, fzm_non, fzm_int, fzm_bl, fzm_lst, fzm_tup, fzm_obj, fzm_scr, fzm_olst, fzm_oll, fzm_oobj, fzm_m, frz_non, frz_int, frz_bl, frz_str, frz_lst, frz_tup, frz_obj, frz_dct, frz_scr, frz_olst, frz_oll, frz_m, fz_no, fz_tr, see_no, see_tr, asB_bl, asI_int, asgD_non, asgD_int, asgD_bl, asgD_lst, asgD_tup, asgD_obj, asgD_mv, asgD_m, it_lst, it_olst, it_scr, li_lst, li_olst, pit_lst, pit_scr, sz_lst, sz_olst, sz_oll, sz_scr, sz_tup, ad_int, ad_ll, ad_oo, ad_lo, ad_ol, mu_int, mu_l, mu_o, gI_int, gI0_int, gI2_int, ii_eqv, co_int, co_bl, co_non, co_row, co_rowO, co_nil, co_nilO, co_ps, co_p, co_p2, co_rows, ev_ll, ev_ol, ev_lo, ev_oo, ev_ln, ev_lno, ev_on, ev_ono, in_ps, in_row, gEq, gNe, gIn, gNotIn, g1, g2, gLen, gList, δof, List.getElem?_cons_zero, List.getElem?_cons_succ, List.getElem?_nil, List.set_cons_zero, List.set_cons_succ, List.map_cons, List.map_nil, List.length_cons, List.length_nil, List.replicate_succ, List.replicate_zero, List.cons_append, List.nil_append, Option.bind_some, Option.bind_none, List.all_cons, List.all_nil, List.append_nil, Nat.reduceAdd, Nat.reduceSub, true_and, and_true, Bool.and_true, Bool.true_and]
    refine t.ii "Same" "Unlike" false ?_
    simp only [dSeq, dIfS, dT, dTn, dTa, dTo, dOp, dVar, dC, dFz_eq, dCB, dCons, dNil, dCall, dCallB, dMeth, dMethB, dSet, dApp, dExt, dRet, dRetM, dNx, dDrop, dNeg, dAnd, dOr, dNot, dIf, dCh, dCh3, dU, dTup, dLst, dFld, dIsi, dIl, dIe, dIr1, dIr2, dIv1, dgN, dgT, putAll, dFor, dPar2, dPar3, dSetT, dLc, dYes, dSl, dNo, dSome, dRev, dNev, dSset, dCount, dIndex, dLrg1, dLrg2, dTwo, un_non, un_int, un_bl, un_str, un_lst, un_tup, un_obj, un_dct, un_scr, un_olst, un_oll, un_oobj, un_mv, un_m, un_p, pl_non, pl_int, pl_bl, pl_str, pl_lst, pl_tup, pl_obj, pl_dct, pl_scr, pl_m, pl_p, fzm_non, fzm_int, fzm_bl, fzm_lst, fzm_tup, fzm_obj, fzm_scr, fzm_olst, fzm_oll, fzm_oobj, fzm_m, frz_non, frz_int, frz_bl, frz_str, frz_lst, frz_tup, frz_obj, frz_dct, frz_scr, frz_olst, frz_oll, frz_m, fz_no, fz_tr, see_no, see_tr, asB_bl, asI_int, asgD_non, asgD_int, asgD_bl, asgD_lst, asgD_tup, asgD_obj, asgD_mv, asgD_m, it_lst, it_olst, it_scr, li_lst, li_olst, pit_lst, pit_scr, sz_lst, sz_olst, sz_oll, sz_scr, sz_tup, ad_int, ad_ll, ad_oo, ad_lo, ad_ol, mu_int, mu_l, mu_o, gI_int, gI0_int, gI2_int, ii_eqv, co_int, co_bl, co_non, co_row, co_rowO, co_nil, co_nilO, co_ps, co_p, co_p2, co_rows, ev_ll, ev_ol, ev_lo, ev_oo, ev_ln, ev_lno, ev_on, ev_ono, in_ps, in_row, gEq, gNe, gIn, gNotIn, g1, g2, gLen, gList, δof, List.getElem?_cons_zero, List.getElem?_cons_succ, List.getElem?_nil, List.set_cons_zero, List.set_cons_succ, List.map_cons, List.map_nil, List.length_cons, List.length_nil, List.replicate_succ, List.replicate_zero, List.cons_append, List.nil_append, Option.bind_some, Option.bind_none, List.all_cons, List.all_nil, List.append_nil, Nat.reduceAdd, Nat.reduceSub, true_and, and_true, Bool.and_true, Bool.true_and]
    refine fld_at (t.fld (A := "Same") (x := "places")) rfl ?_
    simp only [dSeq, dIfS, dT, dTn, dTa, dTo, dOp, dVar, dC, dFz_eq, dCB, dCons, dNil, dCall, dCallB, dMeth, dMethB, dSet, dApp, dExt, dRet, dRetM, dNx, dDrop, dNeg, dAnd, dOr, dNot, dIf, dCh, dCh3, dU, dTup, dLst, dFld, dIsi, dIl, dIe, dIr1, dIr2, dIv1, dgN, dgT, putAll, dFor, dPar2, dPar3, dSetT, dLc, dYes, dSl, dNo, dSome, dRev, dNev, dSset, dCount, dIndex, dLrg1, dLrg2, dTwo, un_non, un_int, un_bl, un_str, un_lst, un_tup, un_obj, un_dct, un_scr, un_olst, un_oll, un_oobj, un_mv, un_m, un_p, pl_non, pl_int, pl_bl, pl_str, pl_lst, pl_tup, pl_obj, pl_dct, pl_scr, pl_m, pl_p, fzm_non, fzm_int, fzm_bl, fzm_lst, fzm_tup, fzm_obj, fzm_scr, fzm_olst, fzm_oll, fzm_oobj, fzm_m, frz_non, frz_int, frz_bl, frz_str, frz_lst, frz_tup, frz_obj, frz_dct, frz_scr, frz_olst, frz_oll, frz_m, fz_no, fz_tr, see_no, see_tr, asB_bl, asI_int, asgD_non, asgD_int, asgD_bl, asgD_lst, asgD_tup, asgD_obj, asgD_mv, asgD_m, it_lst, it_olst, it_scr, li_lst, li_olst, pit_lst, pit_scr, sz_lst, sz_olst, sz_oll, sz_scr, sz_tup, ad_int, ad_ll, ad_oo, ad_lo, ad_ol, mu_int, mu_l, mu_o, gI_int, gI0_int, gI2_int, ii_eqv, co_int, co_bl, co_non, co_row, co_rowO, co_nil, co_nilO, co_ps, co_p, co_p2, co_rows, ev_ll, ev_ol, ev_lo, ev_oo, ev_ln, ev_lno, ev_on, ev_ono, in_ps, in_row, gEq, gNe, gIn, gNotIn, g1, g2, gLen, gList, δof, List.getElem?_cons_zero, List.getElem?_cons_succ, List.getElem?_nil, List.set_cons_zero, List.set_cons_succ, List.map_cons, List.map_nil, List.length_cons, List.length_nil, List.replicate_succ, List.replicate_zero, List.cons_append, List.nil_append, Option.bind_some, Option.bind_none, List.all_cons, List.all_nil, List.append_nil, Nat.reduceAdd, Nat.reduceSub, true_and, and_true, Bool.and_true, Bool.true_and]
    refine due_f (K := K) (R := fun b => Q (.bl b)) (fun z => z) (fun zs e6 z => ?_) pl xs _ hx h
    simp only [rD, dSeq, dIfS, dT, dTn, dTa, dTo, dOp, dVar, dC, dFz_eq, dCB, dCons, dNil, dCall, dCallB, dMeth, dMethB, dSet, dApp, dExt, dRet, dRetM, dNx, dDrop, dNeg, dAnd, dOr, dNot, dIf, dCh, dCh3, dU, dTup, dLst, dFld, dIsi, dIl, dIe, dIr1, dIr2, dIv1, dgN, dgT, putAll, dFor, dPar2, dPar3, dSetT, dLc, dYes, dSl, dNo, dSome, dRev, dNev, dSset, dCount, dIndex, dLrg1, dLrg2, dTwo, un_non, un_int, un_bl, un_str, un_lst, un_tup, un_obj, un_dct, un_scr, un_olst, un_oll, un_oobj, un_mv, un_m, un_p, pl_non, pl_int, pl_bl, pl_str, pl_lst, pl_tup, pl_obj, pl_dct, pl_scr, pl_m, pl_p, fzm_non, fzm_int, fzm_bl, fzm_lst, fzm_tup, fzm_obj, fzm_scr, fzm_olst, fzm_oll, fzm_oobj, fzm_m, frz_non, frz_int, frz_bl, frz_str, frz_lst, frz_tup, frz_obj, frz_dct, frz_scr, frz_olst, frz_oll, frz_m, fz_no, fz_tr, see_no, see_tr, asB_bl, asI_int, asgD_non, asgD_int, asgD_bl, asgD_lst, asgD_tup, asgD_obj, asgD_mv, asgD_m, it_lst, it_olst, it_scr, li_lst, li_olst, pit_lst, pit_scr, sz_lst, sz_olst, sz_oll, sz_scr, sz_tup, ad_int, ad_ll, ad_oo, ad_lo, ad_ol, mu_int, mu_l, mu_o, gI_int, gI0_int, gI2_int, ii_eqv, co_int, co_bl, co_non, co_row, co_rowO, co_nil, co_nilO, co_ps, co_p, co_p2, co_rows, ev_ll, ev_ol, ev_lo, ev_oo, ev_ln, ev_lno, ev_on, ev_ono, in_ps, in_row, gEq, gNe, gIn, gNotIn, g1, g2, gLen, gList, δof, List.getElem?_cons_zero, List.getElem?_cons_succ, List.getElem?_nil, List.set_cons_zero, List.set_cons_succ, List.map_cons, List.map_nil, List.length_cons, List.length_nil, List.replicate_succ, List.replicate_zero, List.cons_append, List.nil_append, Option.bind_some, Option.bind_none, List.all_cons, List.all_nil, List.append_nil, Nat.reduceAdd, Nat.reduceSub, true_and, and_true, Bool.and_true, Bool.true_and]
    exact z
  · simp only [T_law_due, rD, dSeq, dIfS, dT, dTn, dTa, dTo, dOp, dVar, dC, dFz_eq, dCB, dCons, dNil, dCall, dCallB, dMeth, dMethB, dSet, dApp, dExt, dRet, dRetM, dNx, dDrop, dNeg, dAnd, dOr, dNot, dIf, dCh, dCh3, dU, dTup, dLst, dFld, dIsi, dIl, dIe, dIr1, dIr2, dIv1, dgN, dgT, putAll, dFor, dPar2, dPar3, dSetT, dLc, dYes, dSl, dNo, dSome, dRev, dNev, dSset, dCount, dIndex, dLrg1, dLrg2, dTwo, un_non, un_int, un_bl, un_str, un_lst, un_tup, un_obj, un_dct, un_scr, un_olst, un_oll, un_oobj, un_mv, un_m, un_p, pl_non, pl_int, pl_bl, pl_str, pl_lst, pl_tup, pl_obj, pl_dct, pl_scr, pl_m, pl_p, fzm_non, fzm_int, fzm_bl, fzm_lst, fzm_tup, fzm_obj, fzm_scr, fzm_olst, fzm_oll, fzm_oobj, fzm_m, frz_non, frz_int, frz_bl, frz_str, frz_lst, frz_tup, frz_obj, frz_dct, frz_scr, frz_olst, frz_oll, frz_m, fz_no, fz_tr, see_no, see_tr, asB_bl, asI_int, asgD_non, asgD_int, asgD_bl, asgD_lst, asgD_tup, asgD_obj, asgD_mv, asgD_m, it_lst, it_olst, it_scr, li_lst, li_olst, pit_lst, pit_scr, sz_lst, sz_olst, sz_oll, sz_scr, sz_tup, ad_int, ad_ll, ad_oo, ad_lo, ad_ol, mu_int, mu_l, mu_o, gI_int, gI0_int, gI2_int, ii_eqv, co_int, co_bl, co_non, co_row, co_rowO, co_nil, co_nilO, co_ps, co_p, co_p2, co_rows, ev_ll, ev_ol, ev_lo, ev_oo, ev_ln, ev_lno, ev_on, ev_ono, in_ps, in_row, gEq, gNe, gIn, gNotIn, g1, g2, gLen, gList, δof, List.getElem?_cons_zero, List.getElem?_cons_succ, List.getElem?_nil, List.set_cons_zero, List.set_cons_succ, List.map_cons, List.map_nil, List.length_cons, List.length_nil, List.replicate_succ, List.replicate_zero, List.cons_append, List.nil_append, Option.bind_some, Option.bind_none, List.all_cons, List.all_nil, List.append_nil, Nat.reduceAdd, Nat.reduceSub, true_and, and_true, Bool.and_true, Bool.true_and]
    refine t.ii "Unlike" "Unlike" true ?_
    simp only [dSeq, dIfS, dT, dTn, dTa, dTo, dOp, dVar, dC, dFz_eq, dCB, dCons, dNil, dCall, dCallB, dMeth, dMethB, dSet, dApp, dExt, dRet, dRetM, dNx, dDrop, dNeg, dAnd, dOr, dNot, dIf, dCh, dCh3, dU, dTup, dLst, dFld, dIsi, dIl, dIe, dIr1, dIr2, dIv1, dgN, dgT, putAll, dFor, dPar2, dPar3, dSetT, dLc, dYes, dSl, dNo, dSome, dRev, dNev, dSset, dCount, dIndex, dLrg1, dLrg2, dTwo, un_non, un_int, un_bl, un_str, un_lst, un_tup, un_obj, un_dct, un_scr, un_olst, un_oll, un_oobj, un_mv, un_m, un_p, pl_non, pl_int, pl_bl, pl_str, pl_lst, pl_tup, pl_obj, pl_dct, pl_scr, pl_m, pl_p, fzm_non, fzm_int, fzm_bl, fzm_lst, fzm_tup, fzm_obj, fzm_scr, fzm_olst, fzm_oll, fzm_oobj, fzm_m, frz_non, frz_int, frz_bl, frz_str, frz_lst, frz_tup, frz_obj, frz_dct, frz_scr, frz_olst, frz_oll, frz_m, fz_no, fz_tr, see_no, see_tr, asB_bl, asI_int, asgD_non, asgD_int, asgD_bl, asgD_lst, asgD_tup, asgD_obj, asgD_mv, asgD_m, it_lst, it_olst, it_scr, li_lst, li_olst, pit_lst, pit_scr, sz_lst, sz_olst, sz_oll, sz_scr, sz_tup, ad_int, ad_ll, ad_oo, ad_lo, ad_ol, mu_int, mu_l, mu_o, gI_int, gI0_int, gI2_int, ii_eqv, co_int, co_bl, co_non, co_row, co_rowO, co_nil, co_nilO, co_ps, co_p, co_p2, co_rows, ev_ll, ev_ol, ev_lo, ev_oo, ev_ln, ev_lno, ev_on, ev_ono, in_ps, in_row, gEq, gNe, gIn, gNotIn, g1, g2, gLen, gList, δof, List.getElem?_cons_zero, List.getElem?_cons_succ, List.getElem?_nil, List.set_cons_zero, List.set_cons_succ, List.map_cons, List.map_nil, List.length_cons, List.length_nil, List.replicate_succ, List.replicate_zero, List.cons_append, List.nil_append, Option.bind_some, Option.bind_none, List.all_cons, List.all_nil, List.append_nil, Nat.reduceAdd, Nat.reduceSub, true_and, and_true, Bool.and_true, Bool.true_and]
    refine fld_at (t.fld (A := "Unlike") (x := "one")) rfl ?_
    simp only [dSeq, dIfS, dT, dTn, dTa, dTo, dOp, dVar, dC, dFz_eq, dCB, dCons, dNil, dCall, dCallB, dMeth, dMethB, dSet, dApp, dExt, dRet, dRetM, dNx, dDrop, dNeg, dAnd, dOr, dNot, dIf, dCh, dCh3, dU, dTup, dLst, dFld, dIsi, dIl, dIe, dIr1, dIr2, dIv1, dgN, dgT, putAll, dFor, dPar2, dPar3, dSetT, dLc, dYes, dSl, dNo, dSome, dRev, dNev, dSset, dCount, dIndex, dLrg1, dLrg2, dTwo, un_non, un_int, un_bl, un_str, un_lst, un_tup, un_obj, un_dct, un_scr, un_olst, un_oll, un_oobj, un_mv, un_m, un_p, pl_non, pl_int, pl_bl, pl_str, pl_lst, pl_tup, pl_obj, pl_dct, pl_scr, pl_m, pl_p, fzm_non, fzm_int, fzm_bl, fzm_lst, fzm_tup, fzm_obj, fzm_scr, fzm_olst, fzm_oll, fzm_oobj, fzm_m, frz_non, frz_int, frz_bl, frz_str, frz_lst, frz_tup, frz_obj, frz_dct, frz_scr, frz_olst, frz_oll, frz_m, fz_no, fz_tr, see_no, see_tr, asB_bl, asI_int, asgD_non, asgD_int, asgD_bl, asgD_lst, asgD_tup, asgD_obj, asgD_mv, asgD_m, it_lst, it_olst, it_scr, li_lst, li_olst, pit_lst, pit_scr, sz_lst, sz_olst, sz_oll, sz_scr, sz_tup, ad_int, ad_ll, ad_oo, ad_lo, ad_ol, mu_int, mu_l, mu_o, gI_int, gI0_int, gI2_int, ii_eqv, co_int, co_bl, co_non, co_row, co_rowO, co_nil, co_nilO, co_ps, co_p, co_p2, co_rows, ev_ll, ev_ol, ev_lo, ev_oo, ev_ln, ev_lno, ev_on, ev_ono, in_ps, in_row, gEq, gNe, gIn, gNotIn, g1, g2, gLen, gList, δof, List.getElem?_cons_zero, List.getElem?_cons_succ, List.getElem?_nil, List.set_cons_zero, List.set_cons_succ, List.map_cons, List.map_nil, List.length_cons, List.length_nil, List.replicate_succ, List.replicate_zero, List.cons_append, List.nil_append, Option.bind_some, Option.bind_none, List.all_cons, List.all_nil, List.append_nil, Nat.reduceAdd, Nat.reduceSub, true_and, and_true, Bool.and_true, Bool.true_and]
    refine fld_at (t.fld (A := "Unlike") (x := "other")) rfl ?_
    simp only [dSeq, dIfS, dT, dTn, dTa, dTo, dOp, dVar, dC, dFz_eq, dCB, dCons, dNil, dCall, dCallB, dMeth, dMethB, dSet, dApp, dExt, dRet, dRetM, dNx, dDrop, dNeg, dAnd, dOr, dNot, dIf, dCh, dCh3, dU, dTup, dLst, dFld, dIsi, dIl, dIe, dIr1, dIr2, dIv1, dgN, dgT, putAll, dFor, dPar2, dPar3, dSetT, dLc, dYes, dSl, dNo, dSome, dRev, dNev, dSset, dCount, dIndex, dLrg1, dLrg2, dTwo, un_non, un_int, un_bl, un_str, un_lst, un_tup, un_obj, un_dct, un_scr, un_olst, un_oll, un_oobj, un_mv, un_m, un_p, pl_non, pl_int, pl_bl, pl_str, pl_lst, pl_tup, pl_obj, pl_dct, pl_scr, pl_m, pl_p, fzm_non, fzm_int, fzm_bl, fzm_lst, fzm_tup, fzm_obj, fzm_scr, fzm_olst, fzm_oll, fzm_oobj, fzm_m, frz_non, frz_int, frz_bl, frz_str, frz_lst, frz_tup, frz_obj, frz_dct, frz_scr, frz_olst, frz_oll, frz_m, fz_no, fz_tr, see_no, see_tr, asB_bl, asI_int, asgD_non, asgD_int, asgD_bl, asgD_lst, asgD_tup, asgD_obj, asgD_mv, asgD_m, it_lst, it_olst, it_scr, li_lst, li_olst, pit_lst, pit_scr, sz_lst, sz_olst, sz_oll, sz_scr, sz_tup, ad_int, ad_ll, ad_oo, ad_lo, ad_ol, mu_int, mu_l, mu_o, gI_int, gI0_int, gI2_int, ii_eqv, co_int, co_bl, co_non, co_row, co_rowO, co_nil, co_nilO, co_ps, co_p, co_p2, co_rows, ev_ll, ev_ol, ev_lo, ev_oo, ev_ln, ev_lno, ev_on, ev_ono, in_ps, in_row, gEq, gNe, gIn, gNotIn, g1, g2, gLen, gList, δof, List.getElem?_cons_zero, List.getElem?_cons_succ, List.getElem?_nil, List.set_cons_zero, List.set_cons_succ, List.map_cons, List.map_nil, List.length_cons, List.length_nil, List.replicate_succ, List.replicate_zero, List.cons_append, List.nil_append, Option.bind_some, Option.bind_none, List.all_cons, List.all_nil, List.append_nil, Nat.reduceAdd, Nat.reduceSub, true_and, and_true, Bool.and_true, Bool.true_and]
    refine ⟨n, ps, a, b, rfl, ?_⟩
    cases hc : cpB n ps a b with
    | false =>
      rw [hc] at h
      exact h
    | true =>
      rw [hc] at h
      simp only [dSeq, dIfS, dT, dTn, dTa, dTo, dOp, dVar, dC, dFz_eq, dCB, dCons, dNil, dCall, dCallB, dMeth, dMethB, dSet, dApp, dExt, dRet, dRetM, dNx, dDrop, dNeg, dAnd, dOr, dNot, dIf, dCh, dCh3, dU, dTup, dLst, dFld, dIsi, dIl, dIe, dIr1, dIr2, dIv1, dgN, dgT, putAll, dFor, dPar2, dPar3, dSetT, dLc, dYes, dSl, dNo, dSome, dRev, dNev, dSset, dCount, dIndex, dLrg1, dLrg2, dTwo, un_non, un_int, un_bl, un_str, un_lst, un_tup, un_obj, un_dct, un_scr, un_olst, un_oll, un_oobj, un_mv, un_m, un_p, pl_non, pl_int, pl_bl, pl_str, pl_lst, pl_tup, pl_obj, pl_dct, pl_scr, pl_m, pl_p, fzm_non, fzm_int, fzm_bl, fzm_lst, fzm_tup, fzm_obj, fzm_scr, fzm_olst, fzm_oll, fzm_oobj, fzm_m, frz_non, frz_int, frz_bl, frz_str, frz_lst, frz_tup, frz_obj, frz_dct, frz_scr, frz_olst, frz_oll, frz_m, fz_no, fz_tr, see_no, see_tr, asB_bl, asI_int, asgD_non, asgD_int, asgD_bl, asgD_lst, asgD_tup, asgD_obj, asgD_mv, asgD_m, it_lst, it_olst, it_scr, li_lst, li_olst, pit_lst, pit_scr, sz_lst, sz_olst, sz_oll, sz_scr, sz_tup, ad_int, ad_ll, ad_oo, ad_lo, ad_ol, mu_int, mu_l, mu_o, gI_int, gI0_int, gI2_int, ii_eqv, co_int, co_bl, co_non, co_row, co_rowO, co_nil, co_nilO, co_ps, co_p, co_p2, co_rows, ev_ll, ev_ol, ev_lo, ev_oo, ev_ln, ev_lno, ev_on, ev_ono, in_ps, in_row, gEq, gNe, gIn, gNotIn, g1, g2, gLen, gList, δof, List.getElem?_cons_zero, List.getElem?_cons_succ, List.getElem?_nil, List.set_cons_zero, List.set_cons_succ, List.map_cons, List.map_nil, List.length_cons, List.length_nil, List.replicate_succ, List.replicate_zero, List.cons_append, List.nil_append, Option.bind_some, Option.bind_none, List.all_cons, List.all_nil, List.append_nil, Nat.reduceAdd, Nat.reduceSub, true_and, and_true, Bool.and_true, Bool.true_and, Bool.not_true]
      refine fld_at (t.fld (A := "Unlike") (x := "one")) rfl ?_
      simp only [dSeq, dIfS, dT, dTn, dTa, dTo, dOp, dVar, dC, dFz_eq, dCB, dCons, dNil, dCall, dCallB, dMeth, dMethB, dSet, dApp, dExt, dRet, dRetM, dNx, dDrop, dNeg, dAnd, dOr, dNot, dIf, dCh, dCh3, dU, dTup, dLst, dFld, dIsi, dIl, dIe, dIr1, dIr2, dIv1, dgN, dgT, putAll, dFor, dPar2, dPar3, dSetT, dLc, dYes, dSl, dNo, dSome, dRev, dNev, dSset, dCount, dIndex, dLrg1, dLrg2, dTwo, un_non, un_int, un_bl, un_str, un_lst, un_tup, un_obj, un_dct, un_scr, un_olst, un_oll, un_oobj, un_mv, un_m, un_p, pl_non, pl_int, pl_bl, pl_str, pl_lst, pl_tup, pl_obj, pl_dct, pl_scr, pl_m, pl_p, fzm_non, fzm_int, fzm_bl, fzm_lst, fzm_tup, fzm_obj, fzm_scr, fzm_olst, fzm_oll, fzm_oobj, fzm_m, frz_non, frz_int, frz_bl, frz_str, frz_lst, frz_tup, frz_obj, frz_dct, frz_scr, frz_olst, frz_oll, frz_m, fz_no, fz_tr, see_no, see_tr, asB_bl, asI_int, asgD_non, asgD_int, asgD_bl, asgD_lst, asgD_tup, asgD_obj, asgD_mv, asgD_m, it_lst, it_olst, it_scr, li_lst, li_olst, pit_lst, pit_scr, sz_lst, sz_olst, sz_oll, sz_scr, sz_tup, ad_int, ad_ll, ad_oo, ad_lo, ad_ol, mu_int, mu_l, mu_o, gI_int, gI0_int, gI2_int, ii_eqv, co_int, co_bl, co_non, co_row, co_rowO, co_nil, co_nilO, co_ps, co_p, co_p2, co_rows, ev_ll, ev_ol, ev_lo, ev_oo, ev_ln, ev_lno, ev_on, ev_ono, in_ps, in_row, gEq, gNe, gIn, gNotIn, g1, g2, gLen, gList, δof, List.getElem?_cons_zero, List.getElem?_cons_succ, List.getElem?_nil, List.set_cons_zero, List.set_cons_succ, List.map_cons, List.map_nil, List.length_cons, List.length_nil, List.replicate_succ, List.replicate_zero, List.cons_append, List.nil_append, Option.bind_some, Option.bind_none, List.all_cons, List.all_nil, List.append_nil, Nat.reduceAdd, Nat.reduceSub, true_and, and_true, Bool.and_true, Bool.true_and]
      refine fld_at (t.fld (A := "Unlike") (x := "other")) rfl ?_
      simp only [dSeq, dIfS, dT, dTn, dTa, dTo, dOp, dVar, dC, dFz_eq, dCB, dCons, dNil, dCall, dCallB, dMeth, dMethB, dSet, dApp, dExt, dRet, dRetM, dNx, dDrop, dNeg, dAnd, dOr, dNot, dIf, dCh, dCh3, dU, dTup, dLst, dFld, dIsi, dIl, dIe, dIr1, dIr2, dIv1, dgN, dgT, putAll, dFor, dPar2, dPar3, dSetT, dLc, dYes, dSl, dNo, dSome, dRev, dNev, dSset, dCount, dIndex, dLrg1, dLrg2, dTwo, un_non, un_int, un_bl, un_str, un_lst, un_tup, un_obj, un_dct, un_scr, un_olst, un_oll, un_oobj, un_mv, un_m, un_p, pl_non, pl_int, pl_bl, pl_str, pl_lst, pl_tup, pl_obj, pl_dct, pl_scr, pl_m, pl_p, fzm_non, fzm_int, fzm_bl, fzm_lst, fzm_tup, fzm_obj, fzm_scr, fzm_olst, fzm_oll, fzm_oobj, fzm_m, frz_non, frz_int, frz_bl, frz_str, frz_lst, frz_tup, frz_obj, frz_dct, frz_scr, frz_olst, frz_oll, frz_m, fz_no, fz_tr, see_no, see_tr, asB_bl, asI_int, asgD_non, asgD_int, asgD_bl, asgD_lst, asgD_tup, asgD_obj, asgD_mv, asgD_m, it_lst, it_olst, it_scr, li_lst, li_olst, pit_lst, pit_scr, sz_lst, sz_olst, sz_oll, sz_scr, sz_tup, ad_int, ad_ll, ad_oo, ad_lo, ad_ol, mu_int, mu_l, mu_o, gI_int, gI0_int, gI2_int, ii_eqv, co_int, co_bl, co_non, co_row, co_rowO, co_nil, co_nilO, co_ps, co_p, co_p2, co_rows, ev_ll, ev_ol, ev_lo, ev_oo, ev_ln, ev_lno, ev_on, ev_ono, in_ps, in_row, gEq, gNe, gIn, gNotIn, g1, g2, gLen, gList, δof, List.getElem?_cons_zero, List.getElem?_cons_succ, List.getElem?_nil, List.set_cons_zero, List.set_cons_succ, List.map_cons, List.map_nil, List.length_cons, List.length_nil, List.replicate_succ, List.replicate_zero, List.cons_append, List.nil_append, Option.bind_some, Option.bind_none, List.all_cons, List.all_nil, List.append_nil, Nat.reduceAdd, Nat.reduceSub, true_and, and_true, Bool.and_true, Bool.true_and]
      refine ⟨xs, a, b, rfl, hx, ?_⟩
      refine fld_at (t.fld (A := "Unlike") (x := "one")) rfl ?_
      simp only [dSeq, dIfS, dT, dTn, dTa, dTo, dOp, dVar, dC, dFz_eq, dCB, dCons, dNil, dCall, dCallB, dMeth, dMethB, dSet, dApp, dExt, dRet, dRetM, dNx, dDrop, dNeg, dAnd, dOr, dNot, dIf, dCh, dCh3, dU, dTup, dLst, dFld, dIsi, dIl, dIe, dIr1, dIr2, dIv1, dgN, dgT, putAll, dFor, dPar2, dPar3, dSetT, dLc, dYes, dSl, dNo, dSome, dRev, dNev, dSset, dCount, dIndex, dLrg1, dLrg2, dTwo, un_non, un_int, un_bl, un_str, un_lst, un_tup, un_obj, un_dct, un_scr, un_olst, un_oll, un_oobj, un_mv, un_m, un_p, pl_non, pl_int, pl_bl, pl_str, pl_lst, pl_tup, pl_obj, pl_dct, pl_scr, pl_m, pl_p, fzm_non, fzm_int, fzm_bl, fzm_lst, fzm_tup, fzm_obj, fzm_scr, fzm_olst, fzm_oll, fzm_oobj, fzm_m, frz_non, frz_int, frz_bl, frz_str, frz_lst, frz_tup, frz_obj, frz_dct, frz_scr, frz_olst, frz_oll, frz_m, fz_no, fz_tr, see_no, see_tr, asB_bl, asI_int, asgD_non, asgD_int, asgD_bl, asgD_lst, asgD_tup, asgD_obj, asgD_mv, asgD_m, it_lst, it_olst, it_scr, li_lst, li_olst, pit_lst, pit_scr, sz_lst, sz_olst, sz_oll, sz_scr, sz_tup, ad_int, ad_ll, ad_oo, ad_lo, ad_ol, mu_int, mu_l, mu_o, gI_int, gI0_int, gI2_int, ii_eqv, co_int, co_bl, co_non, co_row, co_rowO, co_nil, co_nilO, co_ps, co_p, co_p2, co_rows, ev_ll, ev_ol, ev_lo, ev_oo, ev_ln, ev_lno, ev_on, ev_ono, in_ps, in_row, gEq, gNe, gIn, gNotIn, g1, g2, gLen, gList, δof, List.getElem?_cons_zero, List.getElem?_cons_succ, List.getElem?_nil, List.set_cons_zero, List.set_cons_succ, List.map_cons, List.map_nil, List.length_cons, List.length_nil, List.replicate_succ, List.replicate_zero, List.cons_append, List.nil_append, Option.bind_some, Option.bind_none, List.all_cons, List.all_nil, List.append_nil, Nat.reduceAdd, Nat.reduceSub, true_and, and_true, Bool.and_true, Bool.true_and]
      refine fld_at (t.fld (A := "Unlike") (x := "other")) rfl ?_
      simp only [dSeq, dIfS, dT, dTn, dTa, dTo, dOp, dVar, dC, dFz_eq, dCB, dCons, dNil, dCall, dCallB, dMeth, dMethB, dSet, dApp, dExt, dRet, dRetM, dNx, dDrop, dNeg, dAnd, dOr, dNot, dIf, dCh, dCh3, dU, dTup, dLst, dFld, dIsi, dIl, dIe, dIr1, dIr2, dIv1, dgN, dgT, putAll, dFor, dPar2, dPar3, dSetT, dLc, dYes, dSl, dNo, dSome, dRev, dNev, dSset, dCount, dIndex, dLrg1, dLrg2, dTwo, un_non, un_int, un_bl, un_str, un_lst, un_tup, un_obj, un_dct, un_scr, un_olst, un_oll, un_oobj, un_mv, un_m, un_p, pl_non, pl_int, pl_bl, pl_str, pl_lst, pl_tup, pl_obj, pl_dct, pl_scr, pl_m, pl_p, fzm_non, fzm_int, fzm_bl, fzm_lst, fzm_tup, fzm_obj, fzm_scr, fzm_olst, fzm_oll, fzm_oobj, fzm_m, frz_non, frz_int, frz_bl, frz_str, frz_lst, frz_tup, frz_obj, frz_dct, frz_scr, frz_olst, frz_oll, frz_m, fz_no, fz_tr, see_no, see_tr, asB_bl, asI_int, asgD_non, asgD_int, asgD_bl, asgD_lst, asgD_tup, asgD_obj, asgD_mv, asgD_m, it_lst, it_olst, it_scr, li_lst, li_olst, pit_lst, pit_scr, sz_lst, sz_olst, sz_oll, sz_scr, sz_tup, ad_int, ad_ll, ad_oo, ad_lo, ad_ol, mu_int, mu_l, mu_o, gI_int, gI0_int, gI2_int, ii_eqv, co_int, co_bl, co_non, co_row, co_rowO, co_nil, co_nilO, co_ps, co_p, co_p2, co_rows, ev_ll, ev_ol, ev_lo, ev_oo, ev_ln, ev_lno, ev_on, ev_ono, in_ps, in_row, gEq, gNe, gIn, gNotIn, g1, g2, gLen, gList, δof, List.getElem?_cons_zero, List.getElem?_cons_succ, List.getElem?_nil, List.set_cons_zero, List.set_cons_succ, List.map_cons, List.map_nil, List.length_cons, List.length_nil, List.replicate_succ, List.replicate_zero, List.cons_append, List.nil_append, Option.bind_some, Option.bind_none, List.all_cons, List.all_nil, List.append_nil, Nat.reduceAdd, Nat.reduceSub, true_and, and_true, Bool.and_true, Bool.true_and]
      refine ⟨ys, a, b, rfl, hy, ?_⟩
      simp only [dSeq, dIfS, dT, dTn, dTa, dTo, dOp, dVar, dC, dFz_eq, dCB, dCons, dNil, dCall, dCallB, dMeth, dMethB, dSet, dApp, dExt, dRet, dRetM, dNx, dDrop, dNeg, dAnd, dOr, dNot, dIf, dCh, dCh3, dU, dTup, dLst, dFld, dIsi, dIl, dIe, dIr1, dIr2, dIv1, dgN, dgT, putAll, dFor, dPar2, dPar3, dSetT, dLc, dYes, dSl, dNo, dSome, dRev, dNev, dSset, dCount, dIndex, dLrg1, dLrg2, dTwo, un_non, un_int, un_bl, un_str, un_lst, un_tup, un_obj, un_dct, un_scr, un_olst, un_oll, un_oobj, un_mv, un_m, un_p, pl_non, pl_int, pl_bl, pl_str, pl_lst, pl_tup, pl_obj, pl_dct, pl_scr, pl_m, pl_p, fzm_non, fzm_int, fzm_bl, fzm_lst, fzm_tup, fzm_obj, fzm_scr, fzm_olst, fzm_oll, fzm_oobj, fzm_m, frz_non, frz_int, frz_bl, frz_str, frz_lst, frz_tup, frz_obj, frz_dct, frz_scr, frz_olst, frz_oll, frz_m, fz_no, fz_tr, see_no, see_tr, asB_bl, asI_int, asgD_non, asgD_int, asgD_bl, asgD_lst, asgD_tup, asgD_obj, asgD_mv, asgD_m, it_lst, it_olst, it_scr, li_lst, li_olst, pit_lst, pit_scr, sz_lst, sz_olst, sz_oll, sz_scr, sz_tup, ad_int, ad_ll, ad_oo, ad_lo, ad_ol, mu_int, mu_l, mu_o, gI_int, gI0_int, gI2_int, ii_eqv, co_int, co_bl, co_non, co_row, co_rowO, co_nil, co_nilO, co_ps, co_p, co_p2, co_rows, ev_ll, ev_ol, ev_lo, ev_oo, ev_ln, ev_lno, ev_on, ev_ono, in_ps, in_row, gEq, gNe, gIn, gNotIn, g1, g2, gLen, gList, δof, List.getElem?_cons_zero, List.getElem?_cons_succ, List.getElem?_nil, List.set_cons_zero, List.set_cons_succ, List.map_cons, List.map_nil, List.length_cons, List.length_nil, List.replicate_succ, List.replicate_zero, List.cons_append, List.nil_append, Option.bind_some, Option.bind_none, List.all_cons, List.all_nil, List.append_nil, Nat.reduceAdd, Nat.reduceSub, true_and, and_true, Bool.and_true, Bool.true_and]
      exact h
def G_law_right (K : PySem.W.Frag) : GD := fun ds P => ∃ n ps xs ys, ds = [mK K n ps, .int n, .lst (ps.map pD), rD xs, rD ys] ∧ (Kinds n xs ∧ xs.length ≤ 130) ∧ (Kinds n ys ∧ ys.length ≤ 130) ∧ P (.bl true)
/-! ### law_right -/
abbrev N_law_right : List Str := ["_law_minds_here", "_law_kinds", "_law_pairs", "_law_one", "_law_other", "_law_handed", "_law_found"]
def T_law_right (K : PySem.W.Frag) : DS := (dSeq (dSet 5 (dFz (dLst (dCons (dFz (dCB gList (dCons (dVar 3) dNil))) (dCons (dFz (dCB gList (dCons (dVar 4) dNil))) dNil)))))
  (dSeq (dSet 6 (dCall (G_alike K) (dCons (dVar 0) (dCons (dOp gIx (dVar 5) (dC (.int 0))) (dCons (dOp gIx (dVar 5) (dC (.int 1))) dNil)))))
  (dSeq (dIfS (dTo (dTn (dT (dIsi K (.ref (He.ga K "Answer")) (dVar 6)))) (dTo (dT (dOp gEq (dIsi K (.ref (He.ga K "Same")) (dVar 6)) (dIsi K (.ref (He.ga K "Unlike")) (dVar 6)))) (dT (dOp gNe (dVar 5) (dLst (dCons (dVar 3) (dCons (dVar 4) dNil))))))) (dRet (dC (.bl false))) dNx)
  (dSeq (dIfS (dT (dCB gAny (dCons (dLst (dCons (dFz (dIsi K (.ref (He.ga K "Both")) (dVar 6))) (dCons (dFz (dIsi K (.ref (He.ga K "Held")) (dVar 6))) (dCons (dFz (dIsi K (.ref (He.ga K "Odds")) (dVar 6))) dNil)))) dNil))) (dRet (dC (.bl false))) dNx)
  (dSeq (dIfS (dT (dCB gAny (dCons (dLst (dCons (dFz (dIsi K (.ref (He.ga K "Rest")) (dVar 6))) (dCons (dFz (dIsi K (.ref (He.ga K "Rounds")) (dVar 6))) (dCons (dFz (dIsi K (.ref (He.ga K "Shared")) (dVar 6))) dNil)))) dNil))) (dRet (dC (.bl false))) dNx)
  (dSeq (dIfS (dTo (dT (dOp gNe (dIsi K (.ref (He.ga K "Same")) (dVar 6)) (dCall (G_law_same K) (dCons (dVar 1) (dCons (dVar 2) (dCons (dVar 3) (dCons (dVar 4) dNil))))))) (dTn (dT (dCallB (G_law_due K) (dCons (dVar 1) (dCons (dVar 2) (dCons (dVar 3) (dCons (dVar 4) (dCons (dVar 6) dNil))))))))) (dRet (dC (.bl false))) dNx)
  (dSeq (dIfS (dT (dOp (gIs fun i j => !decide (i = j)) (dOr2 (dMethB (He.ga K "Same") "shows" (G_Same_shows K) (dVar 6) (dCons (dVar 0) (dCons (dVar 3) (dCons (dVar 4) dNil)))) (dMethB (He.ga K "Unlike") "shows" (G_Unlike_shows K) (dVar 6) (dCons (dVar 0) (dCons (dVar 3) (dCons (dVar 4) dNil))))) (dC (.bl true)))) (dRet (dC (.bl false))) dNx)
  (dSeq (dIfS (dT (dOp gNe (dOr2 (dMethB (He.ga K "Same") "shows" (G_Same_shows K) (dVar 6) (dCons (dVar 0) (dCons (dVar 4) (dCons (dVar 3) dNil)))) (dMethB (He.ga K "Unlike") "shows" (G_Unlike_shows K) (dVar 6) (dCons (dVar 0) (dCons (dVar 4) (dCons (dVar 3) dNil))))) (dCallB (G_law_due K) (dCons (dVar 1) (dCons (dVar 2) (dCons (dVar 4) (dCons (dVar 3) (dCons (dVar 6) dNil)))))))) (dRet (dC (.bl false))) dNx)
  (dSeq (dIfS (dT (dIsi K (.ref (He.ga K "Same")) (dVar 6))) (dSeq (dAppF K 6 "places" (dNeg (dC (.int 1))))
  (dRet (dOp (gIs fun i j => decide (i = j)) (dOr2 (dMethB (He.ga K "Same") "shows" (G_Same_shows K) (dVar 6) (dCons (dVar 0) (dCons (dVar 3) (dCons (dVar 4) dNil)))) (dMethB (He.ga K "Unlike") "shows" (G_Unlike_shows K) (dVar 6) (dCons (dVar 0) (dCons (dVar 3) (dCons (dVar 4) dNil))))) (dC (.bl false))))) dNx)
  (dRet (dC (.bl true))))))))))))
theorem setFld_same {pl : List Int} {x : Int} : setFld (sameG pl) "places" (.olst (pl.map .int ++ [.int x])) = sameG (pl ++ [x]) := by
  have e : pl.map D.int ++ [D.int x] = (pl ++ [x]).map D.int := by rw [List.map_append]; rfl
  rw [e]
  rfl
theorem rd_law_right {K : PySem.W.Frag} (t : AnsOk K) : ∀ ds Q, G_law_right K ds Q → T_law_right K { nx := fun _ => Q .non, rt := Q } (δof N_law_right.length ds) := by
  rintro _ Q ⟨n, ps, xs, ys, rfl, ⟨kx, lx⟩, ⟨ky, ly⟩, h⟩
  have hm := mi_mnd ps
  simp only [T_law_right, mK, rD, dSeq, dIfS, dT, dTn, dTa, dTo, dOp, dVar, dC, dFz_eq, dCB, dCons, dNil, dCall, dCallB, dMeth, dMethB, dSet, dApp, dExt, dRet, dRetM, dNx, dDrop, dNeg, dAnd, dOr, dNot, dIf, dCh, dCh3, dU, dTup, dLst, dFld, dIsi, dIl, dIe, dIr1, dIr2, dIv1, dgN, dgT, putAll, dFor, dPar2, dPar3, dSetT, dLc, dYes, dSl, dNo, dSome, dRev, dNev, dSset, dCount, dIndex, dLrg1, dLrg2, dTwo, un_non, un_int, un_bl, un_str, un_lst, un_tup, un_obj, un_dct, un_scr, un_olst, un_oll, un_oobj, un_mv, un_m, un_p, pl_non, pl_int, pl_bl, pl_str, pl_lst, pl_tup, pl_obj, pl_dct, pl_scr, pl_m, pl_p, fzm_non, fzm_int, fzm_bl, fzm_lst, fzm_tup, fzm_obj, fzm_scr, fzm_olst, fzm_oll, fzm_oobj, fzm_m, frz_non, frz_int, frz_bl, frz_str, frz_lst, frz_tup, frz_obj, frz_dct, frz_scr, frz_olst, frz_oll, frz_m, fz_no, fz_tr, see_no, see_tr, asB_bl, asI_int, asgD_non, asgD_int, asgD_bl, asgD_lst, asgD_tup, asgD_obj, asgD_mv, asgD_m, it_lst, it_olst, it_scr, li_lst, li_olst, pit_lst, pit_scr, sz_lst, sz_olst, sz_oll, sz_scr, sz_tup, ad_int, ad_ll, ad_oo, ad_lo, ad_ol, mu_int, mu_l, mu_o, gI_int, gI0_int, gI2_int, ii_eqv, co_int, co_bl, co_non, co_row, co_rowO, co_nil, co_nilO, co_ps, co_p, co_p2, co_rows, ev_ll, ev_ol, ev_lo, ev_oo, ev_ln, ev_lno, ev_on, ev_ono, in_ps, in_row, gEq, gNe, gIn, gNotIn, g1, g2, gLen, gList, δof, List.getElem?_cons_zero, List.getElem?_cons_succ, List.getElem?_nil, List.set_cons_zero, List.set_cons_succ, List.map_cons, List.map_nil, List.length_cons, List.length_nil, List.replicate_succ, List.replicate_zero, List.cons_append, List.nil_append, Option.bind_some, Option.bind_none, List.all_cons, List.all_nil, List.append_nil, Nat.reduceAdd, Nat.reduceSub, true_and, and_true, Bool.and_true, Bool.true_and]
  refine ⟨by decide, ?_⟩
  refine ix_lst ⟨_, at_zero, ?_⟩
  simp only [dSeq, dIfS, dT, dTn, dTa, dTo, dOp, dVar, dC, dFz_eq, dCB, dCons, dNil, dCall, dCallB, dMeth, dMethB, dSet, dApp, dExt, dRet, dRetM, dNx, dDrop, dNeg, dAnd, dOr, dNot, dIf, dCh, dCh3, dU, dTup, dLst, dFld, dIsi, dIl, dIe, dIr1, dIr2, dIv1, dgN, dgT, putAll, dFor, dPar2, dPar3, dSetT, dLc, dYes, dSl, dNo, dSome, dRev, dNev, dSset, dCount, dIndex, dLrg1, dLrg2, dTwo, un_non, un_int, un_bl, un_str, un_lst, un_tup, un_obj, un_dct, un_scr, un_olst, un_oll, un_oobj, un_mv, un_m, un_p, pl_non, pl_int, pl_bl, pl_str, pl_lst, pl_tup, pl_obj, pl_dct, pl_scr, pl_m, pl_p, fzm_non, fzm_int, fzm_bl, fzm_lst, fzm_tup, fzm_obj, fzm_scr, fzm_olst, fzm_oll, fzm_oobj, fzm_m, frz_non, frz_int, frz_bl, frz_str, frz_lst, frz_tup, frz_obj, frz_dct, frz_scr, frz_olst, frz_oll, frz_m, fz_no, fz_tr, see_no, see_tr, asB_bl, asI_int, asgD_non, asgD_int, asgD_bl, asgD_lst, asgD_tup, asgD_obj, asgD_mv, asgD_m, it_lst, it_olst, it_scr, li_lst, li_olst, pit_lst, pit_scr, sz_lst, sz_olst, sz_oll, sz_scr, sz_tup, ad_int, ad_ll, ad_oo, ad_lo, ad_ol, mu_int, mu_l, mu_o, gI_int, gI0_int, gI2_int, ii_eqv, co_int, co_bl, co_non, co_row, co_rowO, co_nil, co_nilO, co_ps, co_p, co_p2, co_rows, ev_ll, ev_ol, ev_lo, ev_oo, ev_ln, ev_lno, ev_on, ev_ono, in_ps, in_row, gEq, gNe, gIn, gNotIn, g1, g2, gLen, gList, δof, List.getElem?_cons_zero, List.getElem?_cons_succ, List.getElem?_nil, List.set_cons_zero, List.set_cons_succ, List.map_cons, List.map_nil, List.length_cons, List.length_nil, List.replicate_succ, List.replicate_zero, List.cons_append, List.nil_append, Option.bind_some, Option.bind_none, List.all_cons, List.all_nil, List.append_nil, Nat.reduceAdd, Nat.reduceSub, true_and, and_true, Bool.and_true, Bool.true_and]
  refine ix_lst ⟨_, at_nat (i := 1) rfl, ?_⟩
  simp only [dSeq, dIfS, dT, dTn, dTa, dTo, dOp, dVar, dC, dFz_eq, dCB, dCons, dNil, dCall, dCallB, dMeth, dMethB, dSet, dApp, dExt, dRet, dRetM, dNx, dDrop, dNeg, dAnd, dOr, dNot, dIf, dCh, dCh3, dU, dTup, dLst, dFld, dIsi, dIl, dIe, dIr1, dIr2, dIv1, dgN, dgT, putAll, dFor, dPar2, dPar3, dSetT, dLc, dYes, dSl, dNo, dSome, dRev, dNev, dSset, dCount, dIndex, dLrg1, dLrg2, dTwo, un_non, un_int, un_bl, un_str, un_lst, un_tup, un_obj, un_dct, un_scr, un_olst, un_oll, un_oobj, un_mv, un_m, un_p, pl_non, pl_int, pl_bl, pl_str, pl_lst, pl_tup, pl_obj, pl_dct, pl_scr, pl_m, pl_p, fzm_non, fzm_int, fzm_bl, fzm_lst, fzm_tup, fzm_obj, fzm_scr, fzm_olst, fzm_oll, fzm_oobj, fzm_m, frz_non, frz_int, frz_bl, frz_str, frz_lst, frz_tup, frz_obj, frz_dct, frz_scr, frz_olst, frz_oll, frz_m, fz_no, fz_tr, see_no, see_tr, asB_bl, asI_int, asgD_non, asgD_int, asgD_bl, asgD_lst, asgD_tup, asgD_obj, asgD_mv, asgD_m, it_lst, it_olst, it_scr, li_lst, li_olst, pit_lst, pit_scr, sz_lst, sz_olst, sz_oll, sz_scr, sz_tup, ad_int, ad_ll, ad_oo, ad_lo, ad_ol, mu_int, mu_l, mu_o, gI_int, gI0_int, gI2_int, ii_eqv, co_int, co_bl, co_non, co_row, co_rowO, co_nil, co_nilO, co_ps, co_p, co_p2, co_rows, ev_ll, ev_ol, ev_lo, ev_oo, ev_ln, ev_lno, ev_on, ev_ono, in_ps, in_row, gEq, gNe, gIn, gNotIn, g1, g2, gLen, gList, δof, List.getElem?_cons_zero, List.getElem?_cons_succ, List.getElem?_nil, List.set_cons_zero, List.set_cons_succ, List.map_cons, List.map_nil, List.length_cons, List.length_nil, List.replicate_succ, List.replicate_zero, List.cons_append, List.nil_append, Option.bind_some, Option.bind_none, List.all_cons, List.all_nil, List.append_nil, Nat.reduceAdd, Nat.reduceSub, true_and, and_true, Bool.and_true, Bool.true_and]
  refine ⟨n, ps, xs, ys, rfl, ⟨kx, lx⟩, ⟨ky, ly⟩, fun pl e => ?_, fun nt c e => ?_⟩
  · have tr : Tr (mnd ps) xs ys := (ledF_tr hm).mp (by rw [e]; rfl)
    have sw : shw (mnd ps) pl xs ys = true := by
      unfold shw
      rw [ledF_xch hm e]
      exact decide_eq_true rfl
    simp only [dSeq, dIfS, dT, dTn, dTa, dTo, dOp, dVar, dC, dFz_eq, dCB, dCons, dNil, dCall, dCallB, dMeth, dMethB, dSet, dApp, dExt, dRet, dRetM, dNx, dDrop, dNeg, dAnd, dOr, dNot, dIf, dCh, dCh3, dU, dTup, dLst, dFld, dIsi, dIl, dIe, dIr1, dIr2, dIv1, dgN, dgT, putAll, dFor, dPar2, dPar3, dSetT, dLc, dYes, dSl, dNo, dSome, dRev, dNev, dSset, dCount, dIndex, dLrg1, dLrg2, dTwo, un_non, un_int, un_bl, un_str, un_lst, un_tup, un_obj, un_dct, un_scr, un_olst, un_oll, un_oobj, un_mv, un_m, un_p, pl_non, pl_int, pl_bl, pl_str, pl_lst, pl_tup, pl_obj, pl_dct, pl_scr, pl_m, pl_p, fzm_non, fzm_int, fzm_bl, fzm_lst, fzm_tup, fzm_obj, fzm_scr, fzm_olst, fzm_oll, fzm_oobj, fzm_m, frz_non, frz_int, frz_bl, frz_str, frz_lst, frz_tup, frz_obj, frz_dct, frz_scr, frz_olst, frz_oll, frz_m, fz_no, fz_tr, see_no, see_tr, asB_bl, asI_int, asgD_non, asgD_int, asgD_bl, asgD_lst, asgD_tup, asgD_obj, asgD_mv, asgD_m, it_lst, it_olst, it_scr, li_lst, li_olst, pit_lst, pit_scr, sz_lst, sz_olst, sz_oll, sz_scr, sz_tup, ad_int, ad_ll, ad_oo, ad_lo, ad_ol, mu_int, mu_l, mu_o, gI_int, gI0_int, gI2_int, ii_eqv, co_int, co_bl, co_non, co_row, co_rowO, co_nil, co_nilO, co_ps, co_p, co_p2, co_rows, ev_ll, ev_ol, ev_lo, ev_oo, ev_ln, ev_lno, ev_on, ev_ono, in_ps, in_row, gEq, gNe, gIn, gNotIn, g1, g2, gLen, gList, δof, List.getElem?_cons_zero, List.getElem?_cons_succ, List.getElem?_nil, List.set_cons_zero, List.set_cons_succ, List.map_cons, List.map_nil, List.length_cons, List.length_nil, List.replicate_succ, List.replicate_zero, List.cons_append, List.nil_append, Option.bind_some, Option.bind_none, List.all_cons, List.all_nil, List.append_nil, Nat.reduceAdd, Nat.reduceSub, true_and, and_true, Bool.and_true, Bool.true_and]
    refine t.io "Same" "Answer" true ?_
    simp only [dSeq, dIfS, dT, dTn, dTa, dTo, dOp, dVar, dC, dFz_eq, dCB, dCons, dNil, dCall, dCallB, dMeth, dMethB, dSet, dApp, dExt, dRet, dRetM, dNx, dDrop, dNeg, dAnd, dOr, dNot, dIf, dCh, dCh3, dU, dTup, dLst, dFld, dIsi, dIl, dIe, dIr1, dIr2, dIv1, dgN, dgT, putAll, dFor, dPar2, dPar3, dSetT, dLc, dYes, dSl, dNo, dSome, dRev, dNev, dSset, dCount, dIndex, dLrg1, dLrg2, dTwo, un_non, un_int, un_bl, un_str, un_lst, un_tup, un_obj, un_dct, un_scr, un_olst, un_oll, un_oobj, un_mv, un_m, un_p, pl_non, pl_int, pl_bl, pl_str, pl_lst, pl_tup, pl_obj, pl_dct, pl_scr, pl_m, pl_p, fzm_non, fzm_int, fzm_bl, fzm_lst, fzm_tup, fzm_obj, fzm_scr, fzm_olst, fzm_oll, fzm_oobj, fzm_m, frz_non, frz_int, frz_bl, frz_str, frz_lst, frz_tup, frz_obj, frz_dct, frz_scr, frz_olst, frz_oll, frz_m, fz_no, fz_tr, see_no, see_tr, asB_bl, asI_int, asgD_non, asgD_int, asgD_bl, asgD_lst, asgD_tup, asgD_obj, asgD_mv, asgD_m, it_lst, it_olst, it_scr, li_lst, li_olst, pit_lst, pit_scr, sz_lst, sz_olst, sz_oll, sz_scr, sz_tup, ad_int, ad_ll, ad_oo, ad_lo, ad_ol, mu_int, mu_l, mu_o, gI_int, gI0_int, gI2_int, ii_eqv, co_int, co_bl, co_non, co_row, co_rowO, co_nil, co_nilO, co_ps, co_p, co_p2, co_rows, ev_ll, ev_ol, ev_lo, ev_oo, ev_ln, ev_lno, ev_on, ev_ono, in_ps, in_row, gEq, gNe, gIn, gNotIn, g1, g2, gLen, gList, δof, List.getElem?_cons_zero, List.getElem?_cons_succ, List.getElem?_nil, List.set_cons_zero, List.set_cons_succ, List.map_cons, List.map_nil, List.length_cons, List.length_nil, List.replicate_succ, List.replicate_zero, List.cons_append, List.nil_append, Option.bind_some, Option.bind_none, List.all_cons, List.all_nil, List.append_nil, Nat.reduceAdd, Nat.reduceSub, true_and, and_true, Bool.and_true, Bool.true_and, Bool.not_true]
    refine t.io "Same" "Same" true ?_
    simp only [dSeq, dIfS, dT, dTn, dTa, dTo, dOp, dVar, dC, dFz_eq, dCB, dCons, dNil, dCall, dCallB, dMeth, dMethB, dSet, dApp, dExt, dRet, dRetM, dNx, dDrop, dNeg, dAnd, dOr, dNot, dIf, dCh, dCh3, dU, dTup, dLst, dFld, dIsi, dIl, dIe, dIr1, dIr2, dIv1, dgN, dgT, putAll, dFor, dPar2, dPar3, dSetT, dLc, dYes, dSl, dNo, dSome, dRev, dNev, dSset, dCount, dIndex, dLrg1, dLrg2, dTwo, un_non, un_int, un_bl, un_str, un_lst, un_tup, un_obj, un_dct, un_scr, un_olst, un_oll, un_oobj, un_mv, un_m, un_p, pl_non, pl_int, pl_bl, pl_str, pl_lst, pl_tup, pl_obj, pl_dct, pl_scr, pl_m, pl_p, fzm_non, fzm_int, fzm_bl, fzm_lst, fzm_tup, fzm_obj, fzm_scr, fzm_olst, fzm_oll, fzm_oobj, fzm_m, frz_non, frz_int, frz_bl, frz_str, frz_lst, frz_tup, frz_obj, frz_dct, frz_scr, frz_olst, frz_oll, frz_m, fz_no, fz_tr, see_no, see_tr, asB_bl, asI_int, asgD_non, asgD_int, asgD_bl, asgD_lst, asgD_tup, asgD_obj, asgD_mv, asgD_m, it_lst, it_olst, it_scr, li_lst, li_olst, pit_lst, pit_scr, sz_lst, sz_olst, sz_oll, sz_scr, sz_tup, ad_int, ad_ll, ad_oo, ad_lo, ad_ol, mu_int, mu_l, mu_o, gI_int, gI0_int, gI2_int, ii_eqv, co_int, co_bl, co_non, co_row, co_rowO, co_nil, co_nilO, co_ps, co_p, co_p2, co_rows, ev_ll, ev_ol, ev_lo, ev_oo, ev_ln, ev_lno, ev_on, ev_ono, in_ps, in_row, gEq, gNe, gIn, gNotIn, g1, g2, gLen, gList, δof, List.getElem?_cons_zero, List.getElem?_cons_succ, List.getElem?_nil, List.set_cons_zero, List.set_cons_succ, List.map_cons, List.map_nil, List.length_cons, List.length_nil, List.replicate_succ, List.replicate_zero, List.cons_append, List.nil_append, Option.bind_some, Option.bind_none, List.all_cons, List.all_nil, List.append_nil, Nat.reduceAdd, Nat.reduceSub, true_and, and_true, Bool.and_true, Bool.true_and]
    refine t.io "Same" "Unlike" false ?_
    simp only [dSeq, dIfS, dT, dTn, dTa, dTo, dOp, dVar, dC, dFz_eq, dCB, dCons, dNil, dCall, dCallB, dMeth, dMethB, dSet, dApp, dExt, dRet, dRetM, dNx, dDrop, dNeg, dAnd, dOr, dNot, dIf, dCh, dCh3, dU, dTup, dLst, dFld, dIsi, dIl, dIe, dIr1, dIr2, dIv1, dgN, dgT, putAll, dFor, dPar2, dPar3, dSetT, dLc, dYes, dSl, dNo, dSome, dRev, dNev, dSset, dCount, dIndex, dLrg1, dLrg2, dTwo, un_non, un_int, un_bl, un_str, un_lst, un_tup, un_obj, un_dct, un_scr, un_olst, un_oll, un_oobj, un_mv, un_m, un_p, pl_non, pl_int, pl_bl, pl_str, pl_lst, pl_tup, pl_obj, pl_dct, pl_scr, pl_m, pl_p, fzm_non, fzm_int, fzm_bl, fzm_lst, fzm_tup, fzm_obj, fzm_scr, fzm_olst, fzm_oll, fzm_oobj, fzm_m, frz_non, frz_int, frz_bl, frz_str, frz_lst, frz_tup, frz_obj, frz_dct, frz_scr, frz_olst, frz_oll, frz_m, fz_no, fz_tr, see_no, see_tr, asB_bl, asI_int, asgD_non, asgD_int, asgD_bl, asgD_lst, asgD_tup, asgD_obj, asgD_mv, asgD_m, it_lst, it_olst, it_scr, li_lst, li_olst, pit_lst, pit_scr, sz_lst, sz_olst, sz_oll, sz_scr, sz_tup, ad_int, ad_ll, ad_oo, ad_lo, ad_ol, mu_int, mu_l, mu_o, gI_int, gI0_int, gI2_int, ii_eqv, co_int, co_bl, co_non, co_row, co_rowO, co_nil, co_nilO, co_ps, co_p, co_p2, co_rows, ev_ll, ev_ol, ev_lo, ev_oo, ev_ln, ev_lno, ev_on, ev_ono, in_ps, in_row, gEq, gNe, gIn, gNotIn, g1, g2, gLen, gList, δof, List.getElem?_cons_zero, List.getElem?_cons_succ, List.getElem?_nil, List.set_cons_zero, List.set_cons_succ, List.map_cons, List.map_nil, List.length_cons, List.length_nil, List.replicate_succ, List.replicate_zero, List.cons_append, List.nil_append, Option.bind_some, Option.bind_none, List.all_cons, List.all_nil, List.append_nil, Nat.reduceAdd, Nat.reduceSub, true_and, and_true, Bool.and_true, Bool.true_and, ev_bb]
    simp only [co_two, co_twoO, ev_two, decide_true, Bool.and_true, Bool.not_true, dSeq, dIfS, dT, dTn, dTa, dTo, dOp, dVar, dC, dFz_eq, dCB, dCons, dNil, dCall, dCallB, dMeth, dMethB, dSet, dApp, dExt, dRet, dRetM, dNx, dDrop, dNeg, dAnd, dOr, dNot, dIf, dCh, dCh3, dU, dTup, dLst, dFld, dIsi, dIl, dIe, dIr1, dIr2, dIv1, dgN, dgT, putAll, dFor, dPar2, dPar3, dSetT, dLc, dYes, dSl, dNo, dSome, dRev, dNev, dSset, dCount, dIndex, dLrg1, dLrg2, dTwo, un_non, un_int, un_bl, un_str, un_lst, un_tup, un_obj, un_dct, un_scr, un_olst, un_oll, un_oobj, un_mv, un_m, un_p, pl_non, pl_int, pl_bl, pl_str, pl_lst, pl_tup, pl_obj, pl_dct, pl_scr, pl_m, pl_p, fzm_non, fzm_int, fzm_bl, fzm_lst, fzm_tup, fzm_obj, fzm_scr, fzm_olst, fzm_oll, fzm_oobj, fzm_m, frz_non, frz_int, frz_bl, frz_str, frz_lst, frz_tup, frz_obj, frz_dct, frz_scr, frz_olst, frz_oll, frz_m, fz_no, fz_tr, see_no, see_tr, asB_bl, asI_int, asgD_non, asgD_int, asgD_bl, asgD_lst, asgD_tup, asgD_obj, asgD_mv, asgD_m, it_lst, it_olst, it_scr, li_lst, li_olst, pit_lst, pit_scr, sz_lst, sz_olst, sz_oll, sz_scr, sz_tup, ad_int, ad_ll, ad_oo, ad_lo, ad_ol, mu_int, mu_l, mu_o, gI_int, gI0_int, gI2_int, ii_eqv, co_int, co_bl, co_non, co_row, co_rowO, co_nil, co_nilO, co_ps, co_p, co_p2, co_rows, ev_ll, ev_ol, ev_lo, ev_oo, ev_ln, ev_lno, ev_on, ev_ono, in_ps, in_row, gEq, gNe, gIn, gNotIn, g1, g2, gLen, gList, δof, List.getElem?_cons_zero, List.getElem?_cons_succ, List.getElem?_nil, List.set_cons_zero, List.set_cons_succ, List.map_cons, List.map_nil, List.length_cons, List.length_nil, List.replicate_succ, List.replicate_zero, List.cons_append, List.nil_append, Option.bind_some, Option.bind_none, List.all_cons, List.all_nil, List.append_nil, Nat.reduceAdd, Nat.reduceSub, true_and, and_true, Bool.and_true, Bool.true_and]
    show _ ∧ _
    refine ⟨by decide, ?_⟩
    refine t.io "Same" "Both" false ?_
    refine t.io "Same" "Held" false ?_
    refine t.io "Same" "Odds" false ?_
    refine ⟨rfl, by decide, ?_⟩
    simp only [dSeq, dIfS, dT, dTn, dTa, dTo, dOp, dVar, dC, dFz_eq, dCB, dCons, dNil, dCall, dCallB, dMeth, dMethB, dSet, dApp, dExt, dRet, dRetM, dNx, dDrop, dNeg, dAnd, dOr, dNot, dIf, dCh, dCh3, dU, dTup, dLst, dFld, dIsi, dIl, dIe, dIr1, dIr2, dIv1, dgN, dgT, putAll, dFor, dPar2, dPar3, dSetT, dLc, dYes, dSl, dNo, dSome, dRev, dNev, dSset, dCount, dIndex, dLrg1, dLrg2, dTwo, un_non, un_int, un_bl, un_str, un_lst, un_tup, un_obj, un_dct, un_scr, un_olst, un_oll, un_oobj, un_mv, un_m, un_p, pl_non, pl_int, pl_bl, pl_str, pl_lst, pl_tup, pl_obj, pl_dct, pl_scr, pl_m, pl_p, fzm_non, fzm_int, fzm_bl, fzm_lst, fzm_tup, fzm_obj, fzm_scr, fzm_olst, fzm_oll, fzm_oobj, fzm_m, frz_non, frz_int, frz_bl, frz_str, frz_lst, frz_tup, frz_obj, frz_dct, frz_scr, frz_olst, frz_oll, frz_m, fz_no, fz_tr, see_no, see_tr, asB_bl, asI_int, asgD_non, asgD_int, asgD_bl, asgD_lst, asgD_tup, asgD_obj, asgD_mv, asgD_m, it_lst, it_olst, it_scr, li_lst, li_olst, pit_lst, pit_scr, sz_lst, sz_olst, sz_oll, sz_scr, sz_tup, ad_int, ad_ll, ad_oo, ad_lo, ad_ol, mu_int, mu_l, mu_o, gI_int, gI0_int, gI2_int, ii_eqv, co_int, co_bl, co_non, co_row, co_rowO, co_nil, co_nilO, co_ps, co_p, co_p2, co_rows, ev_ll, ev_ol, ev_lo, ev_oo, ev_ln, ev_lno, ev_on, ev_ono, in_ps, in_row, gEq, gNe, gIn, gNotIn, g1, g2, gLen, gList, δof, List.getElem?_cons_zero, List.getElem?_cons_succ, List.getElem?_nil, List.set_cons_zero, List.set_cons_succ, List.map_cons, List.map_nil, List.length_cons, List.length_nil, List.replicate_succ, List.replicate_zero, List.cons_append, List.nil_append, Option.bind_some, Option.bind_none, List.all_cons, List.all_nil, List.append_nil, Nat.reduceAdd, Nat.reduceSub, true_and, and_true, Bool.and_true, Bool.true_and, any3, List.any_cons, List.any_nil, Bool.or_false, id]
    refine t.io "Same" "Rest" false ?_
    refine t.io "Same" "Rounds" false ?_
    refine t.io "Same" "Shared" false ?_
    refine ⟨rfl, by decide, ?_⟩
    simp only [dSeq, dIfS, dT, dTn, dTa, dTo, dOp, dVar, dC, dFz_eq, dCB, dCons, dNil, dCall, dCallB, dMeth, dMethB, dSet, dApp, dExt, dRet, dRetM, dNx, dDrop, dNeg, dAnd, dOr, dNot, dIf, dCh, dCh3, dU, dTup, dLst, dFld, dIsi, dIl, dIe, dIr1, dIr2, dIv1, dgN, dgT, putAll, dFor, dPar2, dPar3, dSetT, dLc, dYes, dSl, dNo, dSome, dRev, dNev, dSset, dCount, dIndex, dLrg1, dLrg2, dTwo, un_non, un_int, un_bl, un_str, un_lst, un_tup, un_obj, un_dct, un_scr, un_olst, un_oll, un_oobj, un_mv, un_m, un_p, pl_non, pl_int, pl_bl, pl_str, pl_lst, pl_tup, pl_obj, pl_dct, pl_scr, pl_m, pl_p, fzm_non, fzm_int, fzm_bl, fzm_lst, fzm_tup, fzm_obj, fzm_scr, fzm_olst, fzm_oll, fzm_oobj, fzm_m, frz_non, frz_int, frz_bl, frz_str, frz_lst, frz_tup, frz_obj, frz_dct, frz_scr, frz_olst, frz_oll, frz_m, fz_no, fz_tr, see_no, see_tr, asB_bl, asI_int, asgD_non, asgD_int, asgD_bl, asgD_lst, asgD_tup, asgD_obj, asgD_mv, asgD_m, it_lst, it_olst, it_scr, li_lst, li_olst, pit_lst, pit_scr, sz_lst, sz_olst, sz_oll, sz_scr, sz_tup, ad_int, ad_ll, ad_oo, ad_lo, ad_ol, mu_int, mu_l, mu_o, gI_int, gI0_int, gI2_int, ii_eqv, co_int, co_bl, co_non, co_row, co_rowO, co_nil, co_nilO, co_ps, co_p, co_p2, co_rows, ev_ll, ev_ol, ev_lo, ev_oo, ev_ln, ev_lno, ev_on, ev_ono, in_ps, in_row, gEq, gNe, gIn, gNotIn, g1, g2, gLen, gList, δof, List.getElem?_cons_zero, List.getElem?_cons_succ, List.getElem?_nil, List.set_cons_zero, List.set_cons_succ, List.map_cons, List.map_nil, List.length_cons, List.length_nil, List.replicate_succ, List.replicate_zero, List.cons_append, List.nil_append, Option.bind_some, Option.bind_none, List.all_cons, List.all_nil, List.append_nil, Nat.reduceAdd, Nat.reduceSub, true_and, and_true, Bool.and_true, Bool.true_and, any3, List.any_cons, List.any_nil, Bool.or_false, id]
    refine t.io "Same" "Same" true ?_
    refine ⟨n, ps, xs, ys, rfl, by omega, by omega, ?_⟩
    rw [(smB_tr hm kx ky).mpr tr]
    simp only [dSeq, dIfS, dT, dTn, dTa, dTo, dOp, dVar, dC, dFz_eq, dCB, dCons, dNil, dCall, dCallB, dMeth, dMethB, dSet, dApp, dExt, dRet, dRetM, dNx, dDrop, dNeg, dAnd, dOr, dNot, dIf, dCh, dCh3, dU, dTup, dLst, dFld, dIsi, dIl, dIe, dIr1, dIr2, dIv1, dgN, dgT, putAll, dFor, dPar2, dPar3, dSetT, dLc, dYes, dSl, dNo, dSome, dRev, dNev, dSset, dCount, dIndex, dLrg1, dLrg2, dTwo, un_non, un_int, un_bl, un_str, un_lst, un_tup, un_obj, un_dct, un_scr, un_olst, un_oll, un_oobj, un_mv, un_m, un_p, pl_non, pl_int, pl_bl, pl_str, pl_lst, pl_tup, pl_obj, pl_dct, pl_scr, pl_m, pl_p, fzm_non, fzm_int, fzm_bl, fzm_lst, fzm_tup, fzm_obj, fzm_scr, fzm_olst, fzm_oll, fzm_oobj, fzm_m, frz_non, frz_int, frz_bl, frz_str, frz_lst, frz_tup, frz_obj, frz_dct, frz_scr, frz_olst, frz_oll, frz_m, fz_no, fz_tr, see_no, see_tr, asB_bl, asI_int, asgD_non, asgD_int, asgD_bl, asgD_lst, asgD_tup, asgD_obj, asgD_mv, asgD_m, it_lst, it_olst, it_scr, li_lst, li_olst, pit_lst, pit_scr, sz_lst, sz_olst, sz_oll, sz_scr, sz_tup, ad_int, ad_ll, ad_oo, ad_lo, ad_ol, mu_int, mu_l, mu_o, gI_int, gI0_int, gI2_int, ii_eqv, co_int, co_bl, co_non, co_row, co_rowO, co_nil, co_nilO, co_ps, co_p, co_p2, co_rows, ev_ll, ev_ol, ev_lo, ev_oo, ev_ln, ev_lno, ev_on, ev_ono, in_ps, in_row, gEq, gNe, gIn, gNotIn, g1, g2, gLen, gList, δof, List.getElem?_cons_zero, List.getElem?_cons_succ, List.getElem?_nil, List.set_cons_zero, List.set_cons_succ, List.map_cons, List.map_nil, List.length_cons, List.length_nil, List.replicate_succ, List.replicate_zero, List.cons_append, List.nil_append, Option.bind_some, Option.bind_none, List.all_cons, List.all_nil, List.append_nil, Nat.reduceAdd, Nat.reduceSub, true_and, and_true, Bool.and_true, Bool.true_and, ev_bb]
    refine ⟨n, ps, xs, ys, _, rfl, ⟨by omega, by omega⟩, .inl ⟨pl, rfl, ?_⟩⟩
    rw [sw]
    refine ⟨rfl, ?_⟩
    simp only [dSeq, dIfS, dT, dTn, dTa, dTo, dOp, dVar, dC, dFz_eq, dCB, dCons, dNil, dCall, dCallB, dMeth, dMethB, dSet, dApp, dExt, dRet, dRetM, dNx, dDrop, dNeg, dAnd, dOr, dNot, dIf, dCh, dCh3, dU, dTup, dLst, dFld, dIsi, dIl, dIe, dIr1, dIr2, dIv1, dgN, dgT, putAll, dFor, dPar2, dPar3, dSetT, dLc, dYes, dSl, dNo, dSome, dRev, dNev, dSset, dCount, dIndex, dLrg1, dLrg2, dTwo, un_non, un_int, un_bl, un_str, un_lst, un_tup, un_obj, un_dct, un_scr, un_olst, un_oll, un_oobj, un_mv, un_m, un_p, pl_non, pl_int, pl_bl, pl_str, pl_lst, pl_tup, pl_obj, pl_dct, pl_scr, pl_m, pl_p, fzm_non, fzm_int, fzm_bl, fzm_lst, fzm_tup, fzm_obj, fzm_scr, fzm_olst, fzm_oll, fzm_oobj, fzm_m, frz_non, frz_int, frz_bl, frz_str, frz_lst, frz_tup, frz_obj, frz_dct, frz_scr, frz_olst, frz_oll, frz_m, fz_no, fz_tr, see_no, see_tr, asB_bl, asI_int, asgD_non, asgD_int, asgD_bl, asgD_lst, asgD_tup, asgD_obj, asgD_mv, asgD_m, it_lst, it_olst, it_scr, li_lst, li_olst, pit_lst, pit_scr, sz_lst, sz_olst, sz_oll, sz_scr, sz_tup, ad_int, ad_ll, ad_oo, ad_lo, ad_ol, mu_int, mu_l, mu_o, gI_int, gI0_int, gI2_int, ii_eqv, co_int, co_bl, co_non, co_row, co_rowO, co_nil, co_nilO, co_ps, co_p, co_p2, co_rows, ev_ll, ev_ol, ev_lo, ev_oo, ev_ln, ev_lno, ev_on, ev_ono, in_ps, in_row, gEq, gNe, gIn, gNotIn, g1, g2, gLen, gList, δof, List.getElem?_cons_zero, List.getElem?_cons_succ, List.getElem?_nil, List.set_cons_zero, List.set_cons_succ, List.map_cons, List.map_nil, List.length_cons, List.length_nil, List.replicate_succ, List.replicate_zero, List.cons_append, List.nil_append, Option.bind_some, Option.bind_none, List.all_cons, List.all_nil, List.append_nil, Nat.reduceAdd, Nat.reduceSub, true_and, and_true, Bool.and_true, Bool.true_and, Bool.not_true, dOr2]
    refine .inl ⟨⟨rfl, rfl⟩, n, ps, pl, xs, ys, rfl, by omega, ?_⟩
    rw [sw]
    refine ⟨rfl, ?_⟩
    simp only [dSeq, dIfS, dT, dTn, dTa, dTo, dOp, dVar, dC, dFz_eq, dCB, dCons, dNil, dCall, dCallB, dMeth, dMethB, dSet, dApp, dExt, dRet, dRetM, dNx, dDrop, dNeg, dAnd, dOr, dNot, dIf, dCh, dCh3, dU, dTup, dLst, dFld, dIsi, dIl, dIe, dIr1, dIr2, dIv1, dgN, dgT, putAll, dFor, dPar2, dPar3, dSetT, dLc, dYes, dSl, dNo, dSome, dRev, dNev, dSset, dCount, dIndex, dLrg1, dLrg2, dTwo, un_non, un_int, un_bl, un_str, un_lst, un_tup, un_obj, un_dct, un_scr, un_olst, un_oll, un_oobj, un_mv, un_m, un_p, pl_non, pl_int, pl_bl, pl_str, pl_lst, pl_tup, pl_obj, pl_dct, pl_scr, pl_m, pl_p, fzm_non, fzm_int, fzm_bl, fzm_lst, fzm_tup, fzm_obj, fzm_scr, fzm_olst, fzm_oll, fzm_oobj, fzm_m, frz_non, frz_int, frz_bl, frz_str, frz_lst, frz_tup, frz_obj, frz_dct, frz_scr, frz_olst, frz_oll, frz_m, fz_no, fz_tr, see_no, see_tr, asB_bl, asI_int, asgD_non, asgD_int, asgD_bl, asgD_lst, asgD_tup, asgD_obj, asgD_mv, asgD_m, it_lst, it_olst, it_scr, li_lst, li_olst, pit_lst, pit_scr, sz_lst, sz_olst, sz_oll, sz_scr, sz_tup, ad_int, ad_ll, ad_oo, ad_lo, ad_ol, mu_int, mu_l, mu_o, gI_int, gI0_int, gI2_int, ii_eqv, co_int, co_bl, co_non, co_row, co_rowO, co_nil, co_nilO, co_ps, co_p, co_p2, co_rows, ev_ll, ev_ol, ev_lo, ev_oo, ev_ln, ev_lno, ev_on, ev_ono, in_ps, in_row, gEq, gNe, gIn, gNotIn, g1, g2, gLen, gList, δof, List.getElem?_cons_zero, List.getElem?_cons_succ, List.getElem?_nil, List.set_cons_zero, List.set_cons_succ, List.map_cons, List.map_nil, List.length_cons, List.length_nil, List.replicate_succ, List.replicate_zero, List.cons_append, List.nil_append, Option.bind_some, Option.bind_none, List.all_cons, List.all_nil, List.append_nil, Nat.reduceAdd, Nat.reduceSub, true_and, and_true, Bool.and_true, Bool.true_and, is_bb]
    refine .inl ⟨⟨rfl, rfl⟩, n, ps, pl, ys, xs, rfl, by omega, rfl, ?_⟩
    refine ⟨n, ps, ys, xs, _, rfl, ⟨by omega, by omega⟩, .inl ⟨pl, rfl, rfl, ?_⟩⟩
    simp only [dSeq, dIfS, dT, dTn, dTa, dTo, dOp, dVar, dC, dFz_eq, dCB, dCons, dNil, dCall, dCallB, dMeth, dMethB, dSet, dApp, dExt, dRet, dRetM, dNx, dDrop, dNeg, dAnd, dOr, dNot, dIf, dCh, dCh3, dU, dTup, dLst, dFld, dIsi, dIl, dIe, dIr1, dIr2, dIv1, dgN, dgT, putAll, dFor, dPar2, dPar3, dSetT, dLc, dYes, dSl, dNo, dSome, dRev, dNev, dSset, dCount, dIndex, dLrg1, dLrg2, dTwo, un_non, un_int, un_bl, un_str, un_lst, un_tup, un_obj, un_dct, un_scr, un_olst, un_oll, un_oobj, un_mv, un_m, un_p, pl_non, pl_int, pl_bl, pl_str, pl_lst, pl_tup, pl_obj, pl_dct, pl_scr, pl_m, pl_p, fzm_non, fzm_int, fzm_bl, fzm_lst, fzm_tup, fzm_obj, fzm_scr, fzm_olst, fzm_oll, fzm_oobj, fzm_m, frz_non, frz_int, frz_bl, frz_str, frz_lst, frz_tup, frz_obj, frz_dct, frz_scr, frz_olst, frz_oll, frz_m, fz_no, fz_tr, see_no, see_tr, asB_bl, asI_int, asgD_non, asgD_int, asgD_bl, asgD_lst, asgD_tup, asgD_obj, asgD_mv, asgD_m, it_lst, it_olst, it_scr, li_lst, li_olst, pit_lst, pit_scr, sz_lst, sz_olst, sz_oll, sz_scr, sz_tup, ad_int, ad_ll, ad_oo, ad_lo, ad_ol, mu_int, mu_l, mu_o, gI_int, gI0_int, gI2_int, ii_eqv, co_int, co_bl, co_non, co_row, co_rowO, co_nil, co_nilO, co_ps, co_p, co_p2, co_rows, ev_ll, ev_ol, ev_lo, ev_oo, ev_ln, ev_lno, ev_on, ev_ono, in_ps, in_row, gEq, gNe, gIn, gNotIn, g1, g2, gLen, gList, δof, List.getElem?_cons_zero, List.getElem?_cons_succ, List.getElem?_nil, List.set_cons_zero, List.set_cons_succ, List.map_cons, List.map_nil, List.length_cons, List.length_nil, List.replicate_succ, List.replicate_zero, List.cons_append, List.nil_append, Option.bind_some, Option.bind_none, List.all_cons, List.all_nil, List.append_nil, Nat.reduceAdd, Nat.reduceSub, true_and, and_true, Bool.and_true, Bool.true_and, ev_bb, beq_self_eq_true, Bool.not_true]
    refine t.io "Same" "Same" true ?_
    simp only [dSeq, dIfS, dT, dTn, dTa, dTo, dOp, dVar, dC, dFz_eq, dCB, dCons, dNil, dCall, dCallB, dMeth, dMethB, dSet, dApp, dExt, dRet, dRetM, dNx, dDrop, dNeg, dAnd, dOr, dNot, dIf, dCh, dCh3, dU, dTup, dLst, dFld, dIsi, dIl, dIe, dIr1, dIr2, dIv1, dgN, dgT, putAll, dFor, dPar2, dPar3, dSetT, dLc, dYes, dSl, dNo, dSome, dRev, dNev, dSset, dCount, dIndex, dLrg1, dLrg2, dTwo, un_non, un_int, un_bl, un_str, un_lst, un_tup, un_obj, un_dct, un_scr, un_olst, un_oll, un_oobj, un_mv, un_m, un_p, pl_non, pl_int, pl_bl, pl_str, pl_lst, pl_tup, pl_obj, pl_dct, pl_scr, pl_m, pl_p, fzm_non, fzm_int, fzm_bl, fzm_lst, fzm_tup, fzm_obj, fzm_scr, fzm_olst, fzm_oll, fzm_oobj, fzm_m, frz_non, frz_int, frz_bl, frz_str, frz_lst, frz_tup, frz_obj, frz_dct, frz_scr, frz_olst, frz_oll, frz_m, fz_no, fz_tr, see_no, see_tr, asB_bl, asI_int, asgD_non, asgD_int, asgD_bl, asgD_lst, asgD_tup, asgD_obj, asgD_mv, asgD_m, it_lst, it_olst, it_scr, li_lst, li_olst, pit_lst, pit_scr, sz_lst, sz_olst, sz_oll, sz_scr, sz_tup, ad_int, ad_ll, ad_oo, ad_lo, ad_ol, mu_int, mu_l, mu_o, gI_int, gI0_int, gI2_int, ii_eqv, co_int, co_bl, co_non, co_row, co_rowO, co_nil, co_nilO, co_ps, co_p, co_p2, co_rows, ev_ll, ev_ol, ev_lo, ev_oo, ev_ln, ev_lno, ev_on, ev_ono, in_ps, in_row, gEq, gNe, gIn, gNotIn, g1, g2, gLen, gList, δof, List.getElem?_cons_zero, List.getElem?_cons_succ, List.getElem?_nil, List.set_cons_zero, List.set_cons_succ, List.map_cons, List.map_nil, List.length_cons, List.length_nil, List.replicate_succ, List.replicate_zero, List.cons_append, List.nil_append, Option.bind_some, Option.bind_none, List.all_cons, List.all_nil, List.append_nil, Nat.reduceAdd, Nat.reduceSub, true_and, and_true, Bool.and_true, Bool.true_and]
    refine ⟨_, _, _, rfl, t.fld (A := "Same") (x := "places"), rfl, ?_⟩
    have lp := ledF_len hm e
    have lq := Nat.mul_le_mul ly lx
    refine ⟨by rw [List.length_map]; omega, ?_⟩
    simp only [dSeq, dIfS, dT, dTn, dTa, dTo, dOp, dVar, dC, dFz_eq, dCB, dCons, dNil, dCall, dCallB, dMeth, dMethB, dSet, dApp, dExt, dRet, dRetM, dNx, dDrop, dNeg, dAnd, dOr, dNot, dIf, dCh, dCh3, dU, dTup, dLst, dFld, dIsi, dIl, dIe, dIr1, dIr2, dIv1, dgN, dgT, putAll, dFor, dPar2, dPar3, dSetT, dLc, dYes, dSl, dNo, dSome, dRev, dNev, dSset, dCount, dIndex, dLrg1, dLrg2, dTwo, un_non, un_int, un_bl, un_str, un_lst, un_tup, un_obj, un_dct, un_scr, un_olst, un_oll, un_oobj, un_mv, un_m, un_p, pl_non, pl_int, pl_bl, pl_str, pl_lst, pl_tup, pl_obj, pl_dct, pl_scr, pl_m, pl_p, fzm_non, fzm_int, fzm_bl, fzm_lst, fzm_tup, fzm_obj, fzm_scr, fzm_olst, fzm_oll, fzm_oobj, fzm_m, frz_non, frz_int, frz_bl, frz_str, frz_lst, frz_tup, frz_obj, frz_dct, frz_scr, frz_olst, frz_oll, frz_m, fz_no, fz_tr, see_no, see_tr, asB_bl, asI_int, asgD_non, asgD_int, asgD_bl, asgD_lst, asgD_tup, asgD_obj, asgD_mv, asgD_m, it_lst, it_olst, it_scr, li_lst, li_olst, pit_lst, pit_scr, sz_lst, sz_olst, sz_oll, sz_scr, sz_tup, ad_int, ad_ll, ad_oo, ad_lo, ad_ol, mu_int, mu_l, mu_o, gI_int, gI0_int, gI2_int, ii_eqv, co_int, co_bl, co_non, co_row, co_rowO, co_nil, co_nilO, co_ps, co_p, co_p2, co_rows, ev_ll, ev_ol, ev_lo, ev_oo, ev_ln, ev_lno, ev_on, ev_ono, in_ps, in_row, gEq, gNe, gIn, gNotIn, g1, g2, gLen, gList, δof, List.getElem?_cons_zero, List.getElem?_cons_succ, List.getElem?_nil, List.set_cons_zero, List.set_cons_succ, List.map_cons, List.map_nil, List.length_cons, List.length_nil, List.replicate_succ, List.replicate_zero, List.cons_append, List.nil_append, Option.bind_some, Option.bind_none, List.all_cons, List.all_nil, List.append_nil, Nat.reduceAdd, Nat.reduceSub, true_and, and_true, Bool.and_true, Bool.true_and, setFld_same, dOr2, frz_oobj, is_bb]
    refine .inl ⟨⟨rfl, rfl⟩, n, ps, pl ++ [-1], xs, ys, rfl, by omega, rfl, ?_⟩
    have off : shw (mnd ps) (pl ++ [-1]) xs ys = false := by
      unfold shw
      rw [xchs_neg (by decide)]
    rw [off]
    exact h
  · obtain ⟨c1, c2, ⟨c3, c4⟩, c5⟩ := unF_some hm e
    have kin : ∀ z, z ∈ xs ++ ys → 0 ≤ z ∧ z < n := fun z hz => by
      rcases List.mem_append.mp hz with hz | hz
      · exact kx z hz
      · exact ky z hz
    have cp := cpB_of (ps := ps) (kin _ c3) (kin _ c4) c1 c2
    have oc := (okc_cpB (n := n) (ps := ps) c1).trans cp
    have ns : smB n (mnd ps) xs ys = false := by
      cases q : smB n (mnd ps) xs ys with
      | false => rfl
      | true => exact absurd ((smB_tr hm kx ky).mp q) nt
    simp only [dSeq, dIfS, dT, dTn, dTa, dTo, dOp, dVar, dC, dFz_eq, dCB, dCons, dNil, dCall, dCallB, dMeth, dMethB, dSet, dApp, dExt, dRet, dRetM, dNx, dDrop, dNeg, dAnd, dOr, dNot, dIf, dCh, dCh3, dU, dTup, dLst, dFld, dIsi, dIl, dIe, dIr1, dIr2, dIv1, dgN, dgT, putAll, dFor, dPar2, dPar3, dSetT, dLc, dYes, dSl, dNo, dSome, dRev, dNev, dSset, dCount, dIndex, dLrg1, dLrg2, dTwo, un_non, un_int, un_bl, un_str, un_lst, un_tup, un_obj, un_dct, un_scr, un_olst, un_oll, un_oobj, un_mv, un_m, un_p, pl_non, pl_int, pl_bl, pl_str, pl_lst, pl_tup, pl_obj, pl_dct, pl_scr, pl_m, pl_p, fzm_non, fzm_int, fzm_bl, fzm_lst, fzm_tup, fzm_obj, fzm_scr, fzm_olst, fzm_oll, fzm_oobj, fzm_m, frz_non, frz_int, frz_bl, frz_str, frz_lst, frz_tup, frz_obj, frz_dct, frz_scr, frz_olst, frz_oll, frz_m, fz_no, fz_tr, see_no, see_tr, asB_bl, asI_int, asgD_non, asgD_int, asgD_bl, asgD_lst, asgD_tup, asgD_obj, asgD_mv, asgD_m, it_lst, it_olst, it_scr, li_lst, li_olst, pit_lst, pit_scr, sz_lst, sz_olst, sz_oll, sz_scr, sz_tup, ad_int, ad_ll, ad_oo, ad_lo, ad_ol, mu_int, mu_l, mu_o, gI_int, gI0_int, gI2_int, ii_eqv, co_int, co_bl, co_non, co_row, co_rowO, co_nil, co_nilO, co_ps, co_p, co_p2, co_rows, ev_ll, ev_ol, ev_lo, ev_oo, ev_ln, ev_lno, ev_on, ev_ono, in_ps, in_row, gEq, gNe, gIn, gNotIn, g1, g2, gLen, gList, δof, List.getElem?_cons_zero, List.getElem?_cons_succ, List.getElem?_nil, List.set_cons_zero, List.set_cons_succ, List.map_cons, List.map_nil, List.length_cons, List.length_nil, List.replicate_succ, List.replicate_zero, List.cons_append, List.nil_append, Option.bind_some, Option.bind_none, List.all_cons, List.all_nil, List.append_nil, Nat.reduceAdd, Nat.reduceSub, true_and, and_true, Bool.and_true, Bool.true_and]
    refine t.io "Unlike" "Answer" true ?_
    simp only [dSeq, dIfS, dT, dTn, dTa, dTo, dOp, dVar, dC, dFz_eq, dCB, dCons, dNil, dCall, dCallB, dMeth, dMethB, dSet, dApp, dExt, dRet, dRetM, dNx, dDrop, dNeg, dAnd, dOr, dNot, dIf, dCh, dCh3, dU, dTup, dLst, dFld, dIsi, dIl, dIe, dIr1, dIr2, dIv1, dgN, dgT, putAll, dFor, dPar2, dPar3, dSetT, dLc, dYes, dSl, dNo, dSome, dRev, dNev, dSset, dCount, dIndex, dLrg1, dLrg2, dTwo, un_non, un_int, un_bl, un_str, un_lst, un_tup, un_obj, un_dct, un_scr, un_olst, un_oll, un_oobj, un_mv, un_m, un_p, pl_non, pl_int, pl_bl, pl_str, pl_lst, pl_tup, pl_obj, pl_dct, pl_scr, pl_m, pl_p, fzm_non, fzm_int, fzm_bl, fzm_lst, fzm_tup, fzm_obj, fzm_scr, fzm_olst, fzm_oll, fzm_oobj, fzm_m, frz_non, frz_int, frz_bl, frz_str, frz_lst, frz_tup, frz_obj, frz_dct, frz_scr, frz_olst, frz_oll, frz_m, fz_no, fz_tr, see_no, see_tr, asB_bl, asI_int, asgD_non, asgD_int, asgD_bl, asgD_lst, asgD_tup, asgD_obj, asgD_mv, asgD_m, it_lst, it_olst, it_scr, li_lst, li_olst, pit_lst, pit_scr, sz_lst, sz_olst, sz_oll, sz_scr, sz_tup, ad_int, ad_ll, ad_oo, ad_lo, ad_ol, mu_int, mu_l, mu_o, gI_int, gI0_int, gI2_int, ii_eqv, co_int, co_bl, co_non, co_row, co_rowO, co_nil, co_nilO, co_ps, co_p, co_p2, co_rows, ev_ll, ev_ol, ev_lo, ev_oo, ev_ln, ev_lno, ev_on, ev_ono, in_ps, in_row, gEq, gNe, gIn, gNotIn, g1, g2, gLen, gList, δof, List.getElem?_cons_zero, List.getElem?_cons_succ, List.getElem?_nil, List.set_cons_zero, List.set_cons_succ, List.map_cons, List.map_nil, List.length_cons, List.length_nil, List.replicate_succ, List.replicate_zero, List.cons_append, List.nil_append, Option.bind_some, Option.bind_none, List.all_cons, List.all_nil, List.append_nil, Nat.reduceAdd, Nat.reduceSub, true_and, and_true, Bool.and_true, Bool.true_and, Bool.not_true]
    refine t.io "Unlike" "Same" false ?_
    simp only [dSeq, dIfS, dT, dTn, dTa, dTo, dOp, dVar, dC, dFz_eq, dCB, dCons, dNil, dCall, dCallB, dMeth, dMethB, dSet, dApp, dExt, dRet, dRetM, dNx, dDrop, dNeg, dAnd, dOr, dNot, dIf, dCh, dCh3, dU, dTup, dLst, dFld, dIsi, dIl, dIe, dIr1, dIr2, dIv1, dgN, dgT, putAll, dFor, dPar2, dPar3, dSetT, dLc, dYes, dSl, dNo, dSome, dRev, dNev, dSset, dCount, dIndex, dLrg1, dLrg2, dTwo, un_non, un_int, un_bl, un_str, un_lst, un_tup, un_obj, un_dct, un_scr, un_olst, un_oll, un_oobj, un_mv, un_m, un_p, pl_non, pl_int, pl_bl, pl_str, pl_lst, pl_tup, pl_obj, pl_dct, pl_scr, pl_m, pl_p, fzm_non, fzm_int, fzm_bl, fzm_lst, fzm_tup, fzm_obj, fzm_scr, fzm_olst, fzm_oll, fzm_oobj, fzm_m, frz_non, frz_int, frz_bl, frz_str, frz_lst, frz_tup, frz_obj, frz_dct, frz_scr, frz_olst, frz_oll, frz_m, fz_no, fz_tr, see_no, see_tr, asB_bl, asI_int, asgD_non, asgD_int, asgD_bl, asgD_lst, asgD_tup, asgD_obj, asgD_mv, asgD_m, it_lst, it_olst, it_scr, li_lst, li_olst, pit_lst, pit_scr, sz_lst, sz_olst, sz_oll, sz_scr, sz_tup, ad_int, ad_ll, ad_oo, ad_lo, ad_ol, mu_int, mu_l, mu_o, gI_int, gI0_int, gI2_int, ii_eqv, co_int, co_bl, co_non, co_row, co_rowO, co_nil, co_nilO, co_ps, co_p, co_p2, co_rows, ev_ll, ev_ol, ev_lo, ev_oo, ev_ln, ev_lno, ev_on, ev_ono, in_ps, in_row, gEq, gNe, gIn, gNotIn, g1, g2, gLen, gList, δof, List.getElem?_cons_zero, List.getElem?_cons_succ, List.getElem?_nil, List.set_cons_zero, List.set_cons_succ, List.map_cons, List.map_nil, List.length_cons, List.length_nil, List.replicate_succ, List.replicate_zero, List.cons_append, List.nil_append, Option.bind_some, Option.bind_none, List.all_cons, List.all_nil, List.append_nil, Nat.reduceAdd, Nat.reduceSub, true_and, and_true, Bool.and_true, Bool.true_and]
    refine t.io "Unlike" "Unlike" true ?_
    simp only [dSeq, dIfS, dT, dTn, dTa, dTo, dOp, dVar, dC, dFz_eq, dCB, dCons, dNil, dCall, dCallB, dMeth, dMethB, dSet, dApp, dExt, dRet, dRetM, dNx, dDrop, dNeg, dAnd, dOr, dNot, dIf, dCh, dCh3, dU, dTup, dLst, dFld, dIsi, dIl, dIe, dIr1, dIr2, dIv1, dgN, dgT, putAll, dFor, dPar2, dPar3, dSetT, dLc, dYes, dSl, dNo, dSome, dRev, dNev, dSset, dCount, dIndex, dLrg1, dLrg2, dTwo, un_non, un_int, un_bl, un_str, un_lst, un_tup, un_obj, un_dct, un_scr, un_olst, un_oll, un_oobj, un_mv, un_m, un_p, pl_non, pl_int, pl_bl, pl_str, pl_lst, pl_tup, pl_obj, pl_dct, pl_scr, pl_m, pl_p, fzm_non, fzm_int, fzm_bl, fzm_lst, fzm_tup, fzm_obj, fzm_scr, fzm_olst, fzm_oll, fzm_oobj, fzm_m, frz_non, frz_int, frz_bl, frz_str, frz_lst, frz_tup, frz_obj, frz_dct, frz_scr, frz_olst, frz_oll, frz_m, fz_no, fz_tr, see_no, see_tr, asB_bl, asI_int, asgD_non, asgD_int, asgD_bl, asgD_lst, asgD_tup, asgD_obj, asgD_mv, asgD_m, it_lst, it_olst, it_scr, li_lst, li_olst, pit_lst, pit_scr, sz_lst, sz_olst, sz_oll, sz_scr, sz_tup, ad_int, ad_ll, ad_oo, ad_lo, ad_ol, mu_int, mu_l, mu_o, gI_int, gI0_int, gI2_int, ii_eqv, co_int, co_bl, co_non, co_row, co_rowO, co_nil, co_nilO, co_ps, co_p, co_p2, co_rows, ev_ll, ev_ol, ev_lo, ev_oo, ev_ln, ev_lno, ev_on, ev_ono, in_ps, in_row, gEq, gNe, gIn, gNotIn, g1, g2, gLen, gList, δof, List.getElem?_cons_zero, List.getElem?_cons_succ, List.getElem?_nil, List.set_cons_zero, List.set_cons_succ, List.map_cons, List.map_nil, List.length_cons, List.length_nil, List.replicate_succ, List.replicate_zero, List.cons_append, List.nil_append, Option.bind_some, Option.bind_none, List.all_cons, List.all_nil, List.append_nil, Nat.reduceAdd, Nat.reduceSub, true_and, and_true, Bool.and_true, Bool.true_and, ev_bb]
    simp only [co_two, co_twoO, ev_two, decide_true, Bool.and_true, Bool.not_true, dSeq, dIfS, dT, dTn, dTa, dTo, dOp, dVar, dC, dFz_eq, dCB, dCons, dNil, dCall, dCallB, dMeth, dMethB, dSet, dApp, dExt, dRet, dRetM, dNx, dDrop, dNeg, dAnd, dOr, dNot, dIf, dCh, dCh3, dU, dTup, dLst, dFld, dIsi, dIl, dIe, dIr1, dIr2, dIv1, dgN, dgT, putAll, dFor, dPar2, dPar3, dSetT, dLc, dYes, dSl, dNo, dSome, dRev, dNev, dSset, dCount, dIndex, dLrg1, dLrg2, dTwo, un_non, un_int, un_bl, un_str, un_lst, un_tup, un_obj, un_dct, un_scr, un_olst, un_oll, un_oobj, un_mv, un_m, un_p, pl_non, pl_int, pl_bl, pl_str, pl_lst, pl_tup, pl_obj, pl_dct, pl_scr, pl_m, pl_p, fzm_non, fzm_int, fzm_bl, fzm_lst, fzm_tup, fzm_obj, fzm_scr, fzm_olst, fzm_oll, fzm_oobj, fzm_m, frz_non, frz_int, frz_bl, frz_str, frz_lst, frz_tup, frz_obj, frz_dct, frz_scr, frz_olst, frz_oll, frz_m, fz_no, fz_tr, see_no, see_tr, asB_bl, asI_int, asgD_non, asgD_int, asgD_bl, asgD_lst, asgD_tup, asgD_obj, asgD_mv, asgD_m, it_lst, it_olst, it_scr, li_lst, li_olst, pit_lst, pit_scr, sz_lst, sz_olst, sz_oll, sz_scr, sz_tup, ad_int, ad_ll, ad_oo, ad_lo, ad_ol, mu_int, mu_l, mu_o, gI_int, gI0_int, gI2_int, ii_eqv, co_int, co_bl, co_non, co_row, co_rowO, co_nil, co_nilO, co_ps, co_p, co_p2, co_rows, ev_ll, ev_ol, ev_lo, ev_oo, ev_ln, ev_lno, ev_on, ev_ono, in_ps, in_row, gEq, gNe, gIn, gNotIn, g1, g2, gLen, gList, δof, List.getElem?_cons_zero, List.getElem?_cons_succ, List.getElem?_nil, List.set_cons_zero, List.set_cons_succ, List.map_cons, List.map_nil, List.length_cons, List.length_nil, List.replicate_succ, List.replicate_zero, List.cons_append, List.nil_append, Option.bind_some, Option.bind_none, List.all_cons, List.all_nil, List.append_nil, Nat.reduceAdd, Nat.reduceSub, true_and, and_true, Bool.and_true, Bool.true_and]
    show _ ∧ _
    refine ⟨by decide, ?_⟩
    refine t.io "Unlike" "Both" false ?_
    refine t.io "Unlike" "Held" false ?_
    refine t.io "Unlike" "Odds" false ?_
    refine ⟨rfl, by decide, ?_⟩
    simp only [dSeq, dIfS, dT, dTn, dTa, dTo, dOp, dVar, dC, dFz_eq, dCB, dCons, dNil, dCall, dCallB, dMeth, dMethB, dSet, dApp, dExt, dRet, dRetM, dNx, dDrop, dNeg, dAnd, dOr, dNot, dIf, dCh, dCh3, dU, dTup, dLst, dFld, dIsi, dIl, dIe, dIr1, dIr2, dIv1, dgN, dgT, putAll, dFor, dPar2, dPar3, dSetT, dLc, dYes, dSl, dNo, dSome, dRev, dNev, dSset, dCount, dIndex, dLrg1, dLrg2, dTwo, un_non, un_int, un_bl, un_str, un_lst, un_tup, un_obj, un_dct, un_scr, un_olst, un_oll, un_oobj, un_mv, un_m, un_p, pl_non, pl_int, pl_bl, pl_str, pl_lst, pl_tup, pl_obj, pl_dct, pl_scr, pl_m, pl_p, fzm_non, fzm_int, fzm_bl, fzm_lst, fzm_tup, fzm_obj, fzm_scr, fzm_olst, fzm_oll, fzm_oobj, fzm_m, frz_non, frz_int, frz_bl, frz_str, frz_lst, frz_tup, frz_obj, frz_dct, frz_scr, frz_olst, frz_oll, frz_m, fz_no, fz_tr, see_no, see_tr, asB_bl, asI_int, asgD_non, asgD_int, asgD_bl, asgD_lst, asgD_tup, asgD_obj, asgD_mv, asgD_m, it_lst, it_olst, it_scr, li_lst, li_olst, pit_lst, pit_scr, sz_lst, sz_olst, sz_oll, sz_scr, sz_tup, ad_int, ad_ll, ad_oo, ad_lo, ad_ol, mu_int, mu_l, mu_o, gI_int, gI0_int, gI2_int, ii_eqv, co_int, co_bl, co_non, co_row, co_rowO, co_nil, co_nilO, co_ps, co_p, co_p2, co_rows, ev_ll, ev_ol, ev_lo, ev_oo, ev_ln, ev_lno, ev_on, ev_ono, in_ps, in_row, gEq, gNe, gIn, gNotIn, g1, g2, gLen, gList, δof, List.getElem?_cons_zero, List.getElem?_cons_succ, List.getElem?_nil, List.set_cons_zero, List.set_cons_succ, List.map_cons, List.map_nil, List.length_cons, List.length_nil, List.replicate_succ, List.replicate_zero, List.cons_append, List.nil_append, Option.bind_some, Option.bind_none, List.all_cons, List.all_nil, List.append_nil, Nat.reduceAdd, Nat.reduceSub, true_and, and_true, Bool.and_true, Bool.true_and, any3, List.any_cons, List.any_nil, Bool.or_false, id]
    refine t.io "Unlike" "Rest" false ?_
    refine t.io "Unlike" "Rounds" false ?_
    refine t.io "Unlike" "Shared" false ?_
    refine ⟨rfl, by decide, ?_⟩
    simp only [dSeq, dIfS, dT, dTn, dTa, dTo, dOp, dVar, dC, dFz_eq, dCB, dCons, dNil, dCall, dCallB, dMeth, dMethB, dSet, dApp, dExt, dRet, dRetM, dNx, dDrop, dNeg, dAnd, dOr, dNot, dIf, dCh, dCh3, dU, dTup, dLst, dFld, dIsi, dIl, dIe, dIr1, dIr2, dIv1, dgN, dgT, putAll, dFor, dPar2, dPar3, dSetT, dLc, dYes, dSl, dNo, dSome, dRev, dNev, dSset, dCount, dIndex, dLrg1, dLrg2, dTwo, un_non, un_int, un_bl, un_str, un_lst, un_tup, un_obj, un_dct, un_scr, un_olst, un_oll, un_oobj, un_mv, un_m, un_p, pl_non, pl_int, pl_bl, pl_str, pl_lst, pl_tup, pl_obj, pl_dct, pl_scr, pl_m, pl_p, fzm_non, fzm_int, fzm_bl, fzm_lst, fzm_tup, fzm_obj, fzm_scr, fzm_olst, fzm_oll, fzm_oobj, fzm_m, frz_non, frz_int, frz_bl, frz_str, frz_lst, frz_tup, frz_obj, frz_dct, frz_scr, frz_olst, frz_oll, frz_m, fz_no, fz_tr, see_no, see_tr, asB_bl, asI_int, asgD_non, asgD_int, asgD_bl, asgD_lst, asgD_tup, asgD_obj, asgD_mv, asgD_m, it_lst, it_olst, it_scr, li_lst, li_olst, pit_lst, pit_scr, sz_lst, sz_olst, sz_oll, sz_scr, sz_tup, ad_int, ad_ll, ad_oo, ad_lo, ad_ol, mu_int, mu_l, mu_o, gI_int, gI0_int, gI2_int, ii_eqv, co_int, co_bl, co_non, co_row, co_rowO, co_nil, co_nilO, co_ps, co_p, co_p2, co_rows, ev_ll, ev_ol, ev_lo, ev_oo, ev_ln, ev_lno, ev_on, ev_ono, in_ps, in_row, gEq, gNe, gIn, gNotIn, g1, g2, gLen, gList, δof, List.getElem?_cons_zero, List.getElem?_cons_succ, List.getElem?_nil, List.set_cons_zero, List.set_cons_succ, List.map_cons, List.map_nil, List.length_cons, List.length_nil, List.replicate_succ, List.replicate_zero, List.cons_append, List.nil_append, Option.bind_some, Option.bind_none, List.all_cons, List.all_nil, List.append_nil, Nat.reduceAdd, Nat.reduceSub, true_and, and_true, Bool.and_true, Bool.true_and, any3, List.any_cons, List.any_nil, Bool.or_false, id]
    refine t.io "Unlike" "Same" false ?_
    refine ⟨n, ps, xs, ys, rfl, by omega, by omega, ?_⟩
    rw [ns]
    simp only [dSeq, dIfS, dT, dTn, dTa, dTo, dOp, dVar, dC, dFz_eq, dCB, dCons, dNil, dCall, dCallB, dMeth, dMethB, dSet, dApp, dExt, dRet, dRetM, dNx, dDrop, dNeg, dAnd, dOr, dNot, dIf, dCh, dCh3, dU, dTup, dLst, dFld, dIsi, dIl, dIe, dIr1, dIr2, dIv1, dgN, dgT, putAll, dFor, dPar2, dPar3, dSetT, dLc, dYes, dSl, dNo, dSome, dRev, dNev, dSset, dCount, dIndex, dLrg1, dLrg2, dTwo, un_non, un_int, un_bl, un_str, un_lst, un_tup, un_obj, un_dct, un_scr, un_olst, un_oll, un_oobj, un_mv, un_m, un_p, pl_non, pl_int, pl_bl, pl_str, pl_lst, pl_tup, pl_obj, pl_dct, pl_scr, pl_m, pl_p, fzm_non, fzm_int, fzm_bl, fzm_lst, fzm_tup, fzm_obj, fzm_scr, fzm_olst, fzm_oll, fzm_oobj, fzm_m, frz_non, frz_int, frz_bl, frz_str, frz_lst, frz_tup, frz_obj, frz_dct, frz_scr, frz_olst, frz_oll, frz_m, fz_no, fz_tr, see_no, see_tr, asB_bl, asI_int, asgD_non, asgD_int, asgD_bl, asgD_lst, asgD_tup, asgD_obj, asgD_mv, asgD_m, it_lst, it_olst, it_scr, li_lst, li_olst, pit_lst, pit_scr, sz_lst, sz_olst, sz_oll, sz_scr, sz_tup, ad_int, ad_ll, ad_oo, ad_lo, ad_ol, mu_int, mu_l, mu_o, gI_int, gI0_int, gI2_int, ii_eqv, co_int, co_bl, co_non, co_row, co_rowO, co_nil, co_nilO, co_ps, co_p, co_p2, co_rows, ev_ll, ev_ol, ev_lo, ev_oo, ev_ln, ev_lno, ev_on, ev_ono, in_ps, in_row, gEq, gNe, gIn, gNotIn, g1, g2, gLen, gList, δof, List.getElem?_cons_zero, List.getElem?_cons_succ, List.getElem?_nil, List.set_cons_zero, List.set_cons_succ, List.map_cons, List.map_nil, List.length_cons, List.length_nil, List.replicate_succ, List.replicate_zero, List.cons_append, List.nil_append, Option.bind_some, Option.bind_none, List.all_cons, List.all_nil, List.append_nil, Nat.reduceAdd, Nat.reduceSub, true_and, and_true, Bool.and_true, Bool.true_and, ev_bb]
    refine ⟨n, ps, xs, ys, _, rfl, ⟨by omega, by omega⟩, .inr ⟨c.1, c.2, rfl, ?_⟩⟩
    rw [cp, decide_eq_false c5]
    refine ⟨rfl, ?_⟩
    simp only [dSeq, dIfS, dT, dTn, dTa, dTo, dOp, dVar, dC, dFz_eq, dCB, dCons, dNil, dCall, dCallB, dMeth, dMethB, dSet, dApp, dExt, dRet, dRetM, dNx, dDrop, dNeg, dAnd, dOr, dNot, dIf, dCh, dCh3, dU, dTup, dLst, dFld, dIsi, dIl, dIe, dIr1, dIr2, dIv1, dgN, dgT, putAll, dFor, dPar2, dPar3, dSetT, dLc, dYes, dSl, dNo, dSome, dRev, dNev, dSset, dCount, dIndex, dLrg1, dLrg2, dTwo, un_non, un_int, un_bl, un_str, un_lst, un_tup, un_obj, un_dct, un_scr, un_olst, un_oll, un_oobj, un_mv, un_m, un_p, pl_non, pl_int, pl_bl, pl_str, pl_lst, pl_tup, pl_obj, pl_dct, pl_scr, pl_m, pl_p, fzm_non, fzm_int, fzm_bl, fzm_lst, fzm_tup, fzm_obj, fzm_scr, fzm_olst, fzm_oll, fzm_oobj, fzm_m, frz_non, frz_int, frz_bl, frz_str, frz_lst, frz_tup, frz_obj, frz_dct, frz_scr, frz_olst, frz_oll, frz_m, fz_no, fz_tr, see_no, see_tr, asB_bl, asI_int, asgD_non, asgD_int, asgD_bl, asgD_lst, asgD_tup, asgD_obj, asgD_mv, asgD_m, it_lst, it_olst, it_scr, li_lst, li_olst, pit_lst, pit_scr, sz_lst, sz_olst, sz_oll, sz_scr, sz_tup, ad_int, ad_ll, ad_oo, ad_lo, ad_ol, mu_int, mu_l, mu_o, gI_int, gI0_int, gI2_int, ii_eqv, co_int, co_bl, co_non, co_row, co_rowO, co_nil, co_nilO, co_ps, co_p, co_p2, co_rows, ev_ll, ev_ol, ev_lo, ev_oo, ev_ln, ev_lno, ev_on, ev_ono, in_ps, in_row, gEq, gNe, gIn, gNotIn, g1, g2, gLen, gList, δof, List.getElem?_cons_zero, List.getElem?_cons_succ, List.getElem?_nil, List.set_cons_zero, List.set_cons_succ, List.map_cons, List.map_nil, List.length_cons, List.length_nil, List.replicate_succ, List.replicate_zero, List.cons_append, List.nil_append, Option.bind_some, Option.bind_none, List.all_cons, List.all_nil, List.append_nil, Nat.reduceAdd, Nat.reduceSub, true_and, and_true, Bool.and_true, Bool.true_and, Bool.not_true, Bool.not_false, dOr2]
    refine .inr ⟨⟨rfl, rfl⟩, n, ps, c.1, c.2, xs, ys, rfl, by omega, by omega, ?_⟩
    rw [oc, decide_eq_false c5]
    refine ⟨rfl, ?_⟩
    simp only [dSeq, dIfS, dT, dTn, dTa, dTo, dOp, dVar, dC, dFz_eq, dCB, dCons, dNil, dCall, dCallB, dMeth, dMethB, dSet, dApp, dExt, dRet, dRetM, dNx, dDrop, dNeg, dAnd, dOr, dNot, dIf, dCh, dCh3, dU, dTup, dLst, dFld, dIsi, dIl, dIe, dIr1, dIr2, dIv1, dgN, dgT, putAll, dFor, dPar2, dPar3, dSetT, dLc, dYes, dSl, dNo, dSome, dRev, dNev, dSset, dCount, dIndex, dLrg1, dLrg2, dTwo, un_non, un_int, un_bl, un_str, un_lst, un_tup, un_obj, un_dct, un_scr, un_olst, un_oll, un_oobj, un_mv, un_m, un_p, pl_non, pl_int, pl_bl, pl_str, pl_lst, pl_tup, pl_obj, pl_dct, pl_scr, pl_m, pl_p, fzm_non, fzm_int, fzm_bl, fzm_lst, fzm_tup, fzm_obj, fzm_scr, fzm_olst, fzm_oll, fzm_oobj, fzm_m, frz_non, frz_int, frz_bl, frz_str, frz_lst, frz_tup, frz_obj, frz_dct, frz_scr, frz_olst, frz_oll, frz_m, fz_no, fz_tr, see_no, see_tr, asB_bl, asI_int, asgD_non, asgD_int, asgD_bl, asgD_lst, asgD_tup, asgD_obj, asgD_mv, asgD_m, it_lst, it_olst, it_scr, li_lst, li_olst, pit_lst, pit_scr, sz_lst, sz_olst, sz_oll, sz_scr, sz_tup, ad_int, ad_ll, ad_oo, ad_lo, ad_ol, mu_int, mu_l, mu_o, gI_int, gI0_int, gI2_int, ii_eqv, co_int, co_bl, co_non, co_row, co_rowO, co_nil, co_nilO, co_ps, co_p, co_p2, co_rows, ev_ll, ev_ol, ev_lo, ev_oo, ev_ln, ev_lno, ev_on, ev_ono, in_ps, in_row, gEq, gNe, gIn, gNotIn, g1, g2, gLen, gList, δof, List.getElem?_cons_zero, List.getElem?_cons_succ, List.getElem?_nil, List.set_cons_zero, List.set_cons_succ, List.map_cons, List.map_nil, List.length_cons, List.length_nil, List.replicate_succ, List.replicate_zero, List.cons_append, List.nil_append, Option.bind_some, Option.bind_none, List.all_cons, List.all_nil, List.append_nil, Nat.reduceAdd, Nat.reduceSub, true_and, and_true, Bool.and_true, Bool.true_and, is_bb]
    refine .inr ⟨⟨rfl, rfl⟩, n, ps, c.1, c.2, ys, xs, rfl, by omega, by omega, rfl, ?_⟩
    refine ⟨n, ps, ys, xs, _, rfl, ⟨by omega, by omega⟩, .inr ⟨c.1, c.2, rfl, rfl, ?_⟩⟩
    rw [oc, cp]
    simp only [dSeq, dIfS, dT, dTn, dTa, dTo, dOp, dVar, dC, dFz_eq, dCB, dCons, dNil, dCall, dCallB, dMeth, dMethB, dSet, dApp, dExt, dRet, dRetM, dNx, dDrop, dNeg, dAnd, dOr, dNot, dIf, dCh, dCh3, dU, dTup, dLst, dFld, dIsi, dIl, dIe, dIr1, dIr2, dIv1, dgN, dgT, putAll, dFor, dPar2, dPar3, dSetT, dLc, dYes, dSl, dNo, dSome, dRev, dNev, dSset, dCount, dIndex, dLrg1, dLrg2, dTwo, un_non, un_int, un_bl, un_str, un_lst, un_tup, un_obj, un_dct, un_scr, un_olst, un_oll, un_oobj, un_mv, un_m, un_p, pl_non, pl_int, pl_bl, pl_str, pl_lst, pl_tup, pl_obj, pl_dct, pl_scr, pl_m, pl_p, fzm_non, fzm_int, fzm_bl, fzm_lst, fzm_tup, fzm_obj, fzm_scr, fzm_olst, fzm_oll, fzm_oobj, fzm_m, frz_non, frz_int, frz_bl, frz_str, frz_lst, frz_tup, frz_obj, frz_dct, frz_scr, frz_olst, frz_oll, frz_m, fz_no, fz_tr, see_no, see_tr, asB_bl, asI_int, asgD_non, asgD_int, asgD_bl, asgD_lst, asgD_tup, asgD_obj, asgD_mv, asgD_m, it_lst, it_olst, it_scr, li_lst, li_olst, pit_lst, pit_scr, sz_lst, sz_olst, sz_oll, sz_scr, sz_tup, ad_int, ad_ll, ad_oo, ad_lo, ad_ol, mu_int, mu_l, mu_o, gI_int, gI0_int, gI2_int, ii_eqv, co_int, co_bl, co_non, co_row, co_rowO, co_nil, co_nilO, co_ps, co_p, co_p2, co_rows, ev_ll, ev_ol, ev_lo, ev_oo, ev_ln, ev_lno, ev_on, ev_ono, in_ps, in_row, gEq, gNe, gIn, gNotIn, g1, g2, gLen, gList, δof, List.getElem?_cons_zero, List.getElem?_cons_succ, List.getElem?_nil, List.set_cons_zero, List.set_cons_succ, List.map_cons, List.map_nil, List.length_cons, List.length_nil, List.replicate_succ, List.replicate_zero, List.cons_append, List.nil_append, Option.bind_some, Option.bind_none, List.all_cons, List.all_nil, List.append_nil, Nat.reduceAdd, Nat.reduceSub, true_and, and_true, Bool.and_true, Bool.true_and, ev_bb, beq_self_eq_true, Bool.not_true]
    refine t.io "Unlike" "Same" false ?_
    simp only [dSeq, dIfS, dT, dTn, dTa, dTo, dOp, dVar, dC, dFz_eq, dCB, dCons, dNil, dCall, dCallB, dMeth, dMethB, dSet, dApp, dExt, dRet, dRetM, dNx, dDrop, dNeg, dAnd, dOr, dNot, dIf, dCh, dCh3, dU, dTup, dLst, dFld, dIsi, dIl, dIe, dIr1, dIr2, dIv1, dgN, dgT, putAll, dFor, dPar2, dPar3, dSetT, dLc, dYes, dSl, dNo, dSome, dRev, dNev, dSset, dCount, dIndex, dLrg1, dLrg2, dTwo, un_non, un_int, un_bl, un_str, un_lst, un_tup, un_obj, un_dct, un_scr, un_olst, un_oll, un_oobj, un_mv, un_m, un_p, pl_non, pl_int, pl_bl, pl_str, pl_lst, pl_tup, pl_obj, pl_dct, pl_scr, pl_m, pl_p, fzm_non, fzm_int, fzm_bl, fzm_lst, fzm_tup, fzm_obj, fzm_scr, fzm_olst, fzm_oll, fzm_oobj, fzm_m, frz_non, frz_int, frz_bl, frz_str, frz_lst, frz_tup, frz_obj, frz_dct, frz_scr, frz_olst, frz_oll, frz_m, fz_no, fz_tr, see_no, see_tr, asB_bl, asI_int, asgD_non, asgD_int, asgD_bl, asgD_lst, asgD_tup, asgD_obj, asgD_mv, asgD_m, it_lst, it_olst, it_scr, li_lst, li_olst, pit_lst, pit_scr, sz_lst, sz_olst, sz_oll, sz_scr, sz_tup, ad_int, ad_ll, ad_oo, ad_lo, ad_ol, mu_int, mu_l, mu_o, gI_int, gI0_int, gI2_int, ii_eqv, co_int, co_bl, co_non, co_row, co_rowO, co_nil, co_nilO, co_ps, co_p, co_p2, co_rows, ev_ll, ev_ol, ev_lo, ev_oo, ev_ln, ev_lno, ev_on, ev_ono, in_ps, in_row, gEq, gNe, gIn, gNotIn, g1, g2, gLen, gList, δof, List.getElem?_cons_zero, List.getElem?_cons_succ, List.getElem?_nil, List.set_cons_zero, List.set_cons_succ, List.map_cons, List.map_nil, List.length_cons, List.length_nil, List.replicate_succ, List.replicate_zero, List.cons_append, List.nil_append, Option.bind_some, Option.bind_none, List.all_cons, List.all_nil, List.append_nil, Nat.reduceAdd, Nat.reduceSub, true_and, and_true, Bool.and_true, Bool.true_and]
    exact h
/-! ### the law -/
def G_law (_K : PySem.W.Frag) : GD := fun ds P => ∃ ns, ds = [.scr ns] ∧ ns.length ≤ 63 ∧ P (.bl true)
/-! ### law -/
abbrev N_law : List Str := ["_law_script", "_law_kinds", "_law_pairs", "_law_minds_here", "_law_row_here", "_law_jostled_here", "_law_other", "_law_third"]
def T_law_f1 (K : PySem.W.Frag) : DS := (dIfS (dTn (dT (dCall (G_law_right K) (dCons (dVar 3) (dCons (dVar 1) (dCons (dVar 2) (dCons (dVar 4) (dCons (dVar 6) dNil)))))))) (dRet (dC (.bl false))) dNx)
def T_law (K : PySem.W.Frag) : DS := (dSeq (dSetT [1, 2] (dFz (dCall (G_law_minds K) (dCons (dVar 0) dNil))))
  (dSeq (dPar2 3 4 (dFz (dCall (G_Minds_init K) (dCons (dVar 1) (dCons (dFz (dCB gList (dCons (dVar 2) dNil))) dNil)))) (dFz (dCall (G_law_row K) (dCons (dVar 0) (dCons (dVar 1) (dCons (dC (.int 1)) dNil))))))
  (dSeq (dSet 5 (dFz (dCall (G_law_jostled K) (dCons (dVar 4) (dCons (dVar 2) (dCons (dVar 0) dNil))))))
  (dSeq (dFor (dIl (dFz (dLst (dCons (dVar 5) (dCons (dFz (dCall (G_law_crossed K) (dCons (dVar 5) (dCons (dVar 2) (dCons (dVar 0) dNil))))) (dCons (dFz (dCall (G_law_row K) (dCons (dVar 0) (dCons (dVar 1) (dCons (dC (.int 7)) dNil))))) (dCons (dFz (dSl (dVar 5) (dSome (dC (.int 1))) dNo)) (dCons (dVar 5) dNil)))))))) (dgN 6) (T_law_f1 K))
  (dSeq (dSet 7 (dFz (dCall (G_law_row K) (dCons (dVar 0) (dCons (dVar 1) (dCons (dC (.int 7)) dNil))))))
  (dSeq (dIfS (dTo (dTn (dT (dCall (G_law_right K) (dCons (dFz (dCall (G_Minds_init K) (dCons (dVar 1) (dCons (dFz (dLst dNil)) dNil)))) (dCons (dVar 1) (dCons (dFz (dLst dNil)) (dCons (dVar 4) (dCons (dVar 7) dNil)))))))) (dTn (dT (dCall (G_law_right K) (dCons (dVar 3) (dCons (dVar 1) (dCons (dVar 2) (dCons (dVar 4) (dCons (dVar 7) dNil))))))))) (dRet (dC (.bl false))) dNx)
  (dRet (dCall (G_law_right K) (dCons (dFz (dCall (G_Minds_init K) (dCons (dVar 1) (dCons (dFz (dLst dNil)) dNil)))) (dCons (dVar 1) (dCons (dFz (dLst dNil)) (dCons (dVar 4) (dCons (dFz (dRev (dVar 4))) dNil)))))))))))))
theorem law_f {K : PySem.W.Frag} {n : Int} {ps : List (Int × Int)} {xs : List Int} {d0 d5 : D} {E : EndsD} (hx : Kinds n xs ∧ xs.length ≤ 130) (h : ∀ e6, E.nx [.tr d0, .tr (.int n), .tr (.lst (ps.map pD)), .tr (mK K n ps), .tr (rD xs), .tr d5, e6, .no]) : ∀ (yss : List (List Int)), (∀ ys ∈ yss, Kinds n ys ∧ ys.length ≤ 130) → ∀ (e6 : DV),
    forGo (dgN 6) (T_law_f1 K) E (yss.map rD) [.tr d0, .tr (.int n), .tr (.lst (ps.map pD)), .tr (mK K n ps), .tr (rD xs), .tr d5, e6, .no]
  | [], _, e6 => h e6
  | ys :: yss, hy, e6 => by
    refine forGo_op fun N hN => ?_
    simp only [T_law_f1, mK, rD, dSeq, dIfS, dT, dTn, dTa, dTo, dOp, dVar, dC, dFz_eq, dCB, dCons, dNil, dCall, dCallB, dMeth, dMethB, dSet, dApp, dExt, dRet, dRetM, dNx, dDrop, dNeg, dAnd, dOr, dNot, dIf, dCh, dCh3, dU, dTup, dLst, dFld, dIsi, dIl, dIe, dIr1, dIr2, dIv1, dgN, dgT, putAll, dFor, dPar2, dPar3, dSetT, dLc, dYes, dSl, dNo, dSome, dRev, dNev, dSset, dCount, dIndex, dLrg1, dLrg2, dTwo, un_non, un_int, un_bl, un_str, un_lst, un_tup, un_obj, un_dct, un_scr, un_olst, un_oll, un_oobj, un_mv, un_m, un_p, pl_non, pl_int, pl_bl, pl_str, pl_lst, pl_tup, pl_obj, pl_dct, pl_scr, pl_m, pl_p, fzm_non, fzm_int, fzm_bl, fzm_lst, fzm_tup, fzm_obj, fzm_scr, fzm_olst, fzm_oll, fzm_oobj, fzm_m, frz_non, frz_int, frz_bl, frz_str, frz_lst, frz_tup, frz_obj, frz_dct, frz_scr, frz_olst, frz_oll, frz_m, fz_no, fz_tr, see_no, see_tr, asB_bl, asI_int, asgD_non, asgD_int, asgD_bl, asgD_lst, asgD_tup, asgD_obj, asgD_mv, asgD_m, it_lst, it_olst, it_scr, li_lst, li_olst, pit_lst, pit_scr, sz_lst, sz_olst, sz_oll, sz_scr, sz_tup, ad_int, ad_ll, ad_oo, ad_lo, ad_ol, mu_int, mu_l, mu_o, gI_int, gI0_int, gI2_int, ii_eqv, co_int, co_bl, co_non, co_row, co_rowO, co_nil, co_nilO, co_ps, co_p, co_p2, co_rows, ev_ll, ev_ol, ev_lo, ev_oo, ev_ln, ev_lno, ev_on, ev_ono, in_ps, in_row, gEq, gNe, gIn, gNotIn, g1, g2, gLen, gList, δof, List.getElem?_cons_zero, List.getElem?_cons_succ, List.getElem?_nil, List.set_cons_zero, List.set_cons_succ, List.map_cons, List.map_nil, List.length_cons, List.length_nil, List.replicate_succ, List.replicate_zero, List.cons_append, List.nil_append, Option.bind_some, Option.bind_none, List.all_cons, List.all_nil, List.append_nil, Nat.reduceAdd, Nat.reduceSub, true_and, and_true, Bool.and_true, Bool.true_and]
    refine ⟨n, ps, xs, ys, rfl, hx, hy ys List.mem_cons_self, ?_⟩
    simp only [dSeq, dIfS, dT, dTn, dTa, dTo, dOp, dVar, dC, dFz_eq, dCB, dCons, dNil, dCall, dCallB, dMeth, dMethB, dSet, dApp, dExt, dRet, dRetM, dNx, dDrop, dNeg, dAnd, dOr, dNot, dIf, dCh, dCh3, dU, dTup, dLst, dFld, dIsi, dIl, dIe, dIr1, dIr2, dIv1, dgN, dgT, putAll, dFor, dPar2, dPar3, dSetT, dLc, dYes, dSl, dNo, dSome, dRev, dNev, dSset, dCount, dIndex, dLrg1, dLrg2, dTwo, un_non, un_int, un_bl, un_str, un_lst, un_tup, un_obj, un_dct, un_scr, un_olst, un_oll, un_oobj, un_mv, un_m, un_p, pl_non, pl_int, pl_bl, pl_str, pl_lst, pl_tup, pl_obj, pl_dct, pl_scr, pl_m, pl_p, fzm_non, fzm_int, fzm_bl, fzm_lst, fzm_tup, fzm_obj, fzm_scr, fzm_olst, fzm_oll, fzm_oobj, fzm_m, frz_non, frz_int, frz_bl, frz_str, frz_lst, frz_tup, frz_obj, frz_dct, frz_scr, frz_olst, frz_oll, frz_m, fz_no, fz_tr, see_no, see_tr, asB_bl, asI_int, asgD_non, asgD_int, asgD_bl, asgD_lst, asgD_tup, asgD_obj, asgD_mv, asgD_m, it_lst, it_olst, it_scr, li_lst, li_olst, pit_lst, pit_scr, sz_lst, sz_olst, sz_oll, sz_scr, sz_tup, ad_int, ad_ll, ad_oo, ad_lo, ad_ol, mu_int, mu_l, mu_o, gI_int, gI0_int, gI2_int, ii_eqv, co_int, co_bl, co_non, co_row, co_rowO, co_nil, co_nilO, co_ps, co_p, co_p2, co_rows, ev_ll, ev_ol, ev_lo, ev_oo, ev_ln, ev_lno, ev_on, ev_ono, in_ps, in_row, gEq, gNe, gIn, gNotIn, g1, g2, gLen, gList, δof, List.getElem?_cons_zero, List.getElem?_cons_succ, List.getElem?_nil, List.set_cons_zero, List.set_cons_succ, List.map_cons, List.map_nil, List.length_cons, List.length_nil, List.replicate_succ, List.replicate_zero, List.cons_append, List.nil_append, Option.bind_some, Option.bind_none, List.all_cons, List.all_nil, List.append_nil, Nat.reduceAdd, Nat.reduceSub, true_and, and_true, Bool.and_true, Bool.true_and, Bool.not_true]
    rw [hN]
    exact law_f hx h yss (fun zs hz => hy zs (List.mem_cons_of_mem _ hz)) _
theorem rd_law {K : PySem.W.Frag} : ∀ ds Q, G_law K ds Q → T_law K { nx := fun _ => Q .non, rt := Q } (δof N_law.length ds) := by
  rintro _ Q ⟨ns, rfl, hl, h⟩
  simp only [T_law, dSeq, dIfS, dT, dTn, dTa, dTo, dOp, dVar, dC, dFz_eq, dCB, dCons, dNil, dCall, dCallB, dMeth, dMethB, dSet, dApp, dExt, dRet, dRetM, dNx, dDrop, dNeg, dAnd, dOr, dNot, dIf, dCh, dCh3, dU, dTup, dLst, dFld, dIsi, dIl, dIe, dIr1, dIr2, dIv1, dgN, dgT, putAll, dFor, dPar2, dPar3, dSetT, dLc, dYes, dSl, dNo, dSome, dRev, dNev, dSset, dCount, dIndex, dLrg1, dLrg2, dTwo, un_non, un_int, un_bl, un_str, un_lst, un_tup, un_obj, un_dct, un_scr, un_olst, un_oll, un_oobj, un_mv, un_m, un_p, pl_non, pl_int, pl_bl, pl_str, pl_lst, pl_tup, pl_obj, pl_dct, pl_scr, pl_m, pl_p, fzm_non, fzm_int, fzm_bl, fzm_lst, fzm_tup, fzm_obj, fzm_scr, fzm_olst, fzm_oll, fzm_oobj, fzm_m, frz_non, frz_int, frz_bl, frz_str, frz_lst, frz_tup, frz_obj, frz_dct, frz_scr, frz_olst, frz_oll, frz_m, fz_no, fz_tr, see_no, see_tr, asB_bl, asI_int, asgD_non, asgD_int, asgD_bl, asgD_lst, asgD_tup, asgD_obj, asgD_mv, asgD_m, it_lst, it_olst, it_scr, li_lst, li_olst, pit_lst, pit_scr, sz_lst, sz_olst, sz_oll, sz_scr, sz_tup, ad_int, ad_ll, ad_oo, ad_lo, ad_ol, mu_int, mu_l, mu_o, gI_int, gI0_int, gI2_int, ii_eqv, co_int, co_bl, co_non, co_row, co_rowO, co_nil, co_nilO, co_ps, co_p, co_p2, co_rows, ev_ll, ev_ol, ev_lo, ev_oo, ev_ln, ev_lno, ev_on, ev_ono, in_ps, in_row, gEq, gNe, gIn, gNotIn, g1, g2, gLen, gList, δof, List.getElem?_cons_zero, List.getElem?_cons_succ, List.getElem?_nil, List.set_cons_zero, List.set_cons_succ, List.map_cons, List.map_nil, List.length_cons, List.length_nil, List.replicate_succ, List.replicate_zero, List.cons_append, List.nil_append, Option.bind_some, Option.bind_none, List.all_cons, List.all_nil, List.append_nil, Nat.reduceAdd, Nat.reduceSub, true_and, and_true, Bool.and_true, Bool.true_and]
  refine ⟨ns, rfl, hl, fun n ps h1 h2 hp => ?_⟩
  simp only [dSeq, dIfS, dT, dTn, dTa, dTo, dOp, dVar, dC, dFz_eq, dCB, dCons, dNil, dCall, dCallB, dMeth, dMethB, dSet, dApp, dExt, dRet, dRetM, dNx, dDrop, dNeg, dAnd, dOr, dNot, dIf, dCh, dCh3, dU, dTup, dLst, dFld, dIsi, dIl, dIe, dIr1, dIr2, dIv1, dgN, dgT, putAll, dFor, dPar2, dPar3, dSetT, dLc, dYes, dSl, dNo, dSome, dRev, dNev, dSset, dCount, dIndex, dLrg1, dLrg2, dTwo, un_non, un_int, un_bl, un_str, un_lst, un_tup, un_obj, un_dct, un_scr, un_olst, un_oll, un_oobj, un_mv, un_m, un_p, pl_non, pl_int, pl_bl, pl_str, pl_lst, pl_tup, pl_obj, pl_dct, pl_scr, pl_m, pl_p, fzm_non, fzm_int, fzm_bl, fzm_lst, fzm_tup, fzm_obj, fzm_scr, fzm_olst, fzm_oll, fzm_oobj, fzm_m, frz_non, frz_int, frz_bl, frz_str, frz_lst, frz_tup, frz_obj, frz_dct, frz_scr, frz_olst, frz_oll, frz_m, fz_no, fz_tr, see_no, see_tr, asB_bl, asI_int, asgD_non, asgD_int, asgD_bl, asgD_lst, asgD_tup, asgD_obj, asgD_mv, asgD_m, it_lst, it_olst, it_scr, li_lst, li_olst, pit_lst, pit_scr, sz_lst, sz_olst, sz_oll, sz_scr, sz_tup, ad_int, ad_ll, ad_oo, ad_lo, ad_ol, mu_int, mu_l, mu_o, gI_int, gI0_int, gI2_int, ii_eqv, co_int, co_bl, co_non, co_row, co_rowO, co_nil, co_nilO, co_ps, co_p, co_p2, co_rows, ev_ll, ev_ol, ev_lo, ev_oo, ev_ln, ev_lno, ev_on, ev_ono, in_ps, in_row, gEq, gNe, gIn, gNotIn, g1, g2, gLen, gList, δof, List.getElem?_cons_zero, List.getElem?_cons_succ, List.getElem?_nil, List.set_cons_zero, List.set_cons_succ, List.map_cons, List.map_nil, List.length_cons, List.length_nil, List.replicate_succ, List.replicate_zero, List.cons_append, List.nil_append, Option.bind_some, Option.bind_none, List.all_cons, List.all_nil, List.append_nil, Nat.reduceAdd, Nat.reduceSub, true_and, and_true, Bool.and_true, Bool.true_and]
  refine ⟨n, ps, rfl, h1, hp, ?_⟩
  refine ⟨.scr ns, ns, n, 1, rfl, ints_s ns, by omega, ⟨by decide, by decide⟩, by omega, ?_⟩
  simp only [dSeq, dIfS, dT, dTn, dTa, dTo, dOp, dVar, dC, dFz_eq, dCB, dCons, dNil, dCall, dCallB, dMeth, dMethB, dSet, dApp, dExt, dRet, dRetM, dNx, dDrop, dNeg, dAnd, dOr, dNot, dIf, dCh, dCh3, dU, dTup, dLst, dFld, dIsi, dIl, dIe, dIr1, dIr2, dIv1, dgN, dgT, putAll, dFor, dPar2, dPar3, dSetT, dLc, dYes, dSl, dNo, dSome, dRev, dNev, dSset, dCount, dIndex, dLrg1, dLrg2, dTwo, un_non, un_int, un_bl, un_str, un_lst, un_tup, un_obj, un_dct, un_scr, un_olst, un_oll, un_oobj, un_mv, un_m, un_p, pl_non, pl_int, pl_bl, pl_str, pl_lst, pl_tup, pl_obj, pl_dct, pl_scr, pl_m, pl_p, fzm_non, fzm_int, fzm_bl, fzm_lst, fzm_tup, fzm_obj, fzm_scr, fzm_olst, fzm_oll, fzm_oobj, fzm_m, frz_non, frz_int, frz_bl, frz_str, frz_lst, frz_tup, frz_obj, frz_dct, frz_scr, frz_olst, frz_oll, frz_m, fz_no, fz_tr, see_no, see_tr, asB_bl, asI_int, asgD_non, asgD_int, asgD_bl, asgD_lst, asgD_tup, asgD_obj, asgD_mv, asgD_m, it_lst, it_olst, it_scr, li_lst, li_olst, pit_lst, pit_scr, sz_lst, sz_olst, sz_oll, sz_scr, sz_tup, ad_int, ad_ll, ad_oo, ad_lo, ad_ol, mu_int, mu_l, mu_o, gI_int, gI0_int, gI2_int, ii_eqv, co_int, co_bl, co_non, co_row, co_rowO, co_nil, co_nilO, co_ps, co_p, co_p2, co_rows, ev_ll, ev_ol, ev_lo, ev_oo, ev_ln, ev_lno, ev_on, ev_ono, in_ps, in_row, gEq, gNe, gIn, gNotIn, g1, g2, gLen, gList, δof, List.getElem?_cons_zero, List.getElem?_cons_succ, List.getElem?_nil, List.set_cons_zero, List.set_cons_succ, List.map_cons, List.map_nil, List.length_cons, List.length_nil, List.replicate_succ, List.replicate_zero, List.cons_append, List.nil_append, Option.bind_some, Option.bind_none, List.all_cons, List.all_nil, List.append_nil, Nat.reduceAdd, Nat.reduceSub, true_and, and_true, Bool.and_true, Bool.true_and, fzm_M]
  have kx : Kinds n (rowOf ns n 1) := kinds_row h1
  have lx : (rowOf ns n 1).length ≤ 63 := by rw [row_len]; exact hl
  have k7 : Kinds n (rowOf ns n 7) := kinds_row h1
  have l7 : (rowOf ns n 7).length ≤ 63 := by rw [row_len]; exact hl
  generalize rowOf ns n 1 = xs at *
  refine ⟨xs, ps, .scr ns, ns, rfl, ints_s ns, by omega, fun ys ht => ?_⟩
  have ky := kx.tr ht
  have ly := ht.len
  simp only [dSeq, dIfS, dT, dTn, dTa, dTo, dOp, dVar, dC, dFz_eq, dCB, dCons, dNil, dCall, dCallB, dMeth, dMethB, dSet, dApp, dExt, dRet, dRetM, dNx, dDrop, dNeg, dAnd, dOr, dNot, dIf, dCh, dCh3, dU, dTup, dLst, dFld, dIsi, dIl, dIe, dIr1, dIr2, dIv1, dgN, dgT, putAll, dFor, dPar2, dPar3, dSetT, dLc, dYes, dSl, dNo, dSome, dRev, dNev, dSset, dCount, dIndex, dLrg1, dLrg2, dTwo, un_non, un_int, un_bl, un_str, un_lst, un_tup, un_obj, un_dct, un_scr, un_olst, un_oll, un_oobj, un_mv, un_m, un_p, pl_non, pl_int, pl_bl, pl_str, pl_lst, pl_tup, pl_obj, pl_dct, pl_scr, pl_m, pl_p, fzm_non, fzm_int, fzm_bl, fzm_lst, fzm_tup, fzm_obj, fzm_scr, fzm_olst, fzm_oll, fzm_oobj, fzm_m, frz_non, frz_int, frz_bl, frz_str, frz_lst, frz_tup, frz_obj, frz_dct, frz_scr, frz_olst, frz_oll, frz_m, fz_no, fz_tr, see_no, see_tr, asB_bl, asI_int, asgD_non, asgD_int, asgD_bl, asgD_lst, asgD_tup, asgD_obj, asgD_mv, asgD_m, it_lst, it_olst, it_scr, li_lst, li_olst, pit_lst, pit_scr, sz_lst, sz_olst, sz_oll, sz_scr, sz_tup, ad_int, ad_ll, ad_oo, ad_lo, ad_ol, mu_int, mu_l, mu_o, gI_int, gI0_int, gI2_int, ii_eqv, co_int, co_bl, co_non, co_row, co_rowO, co_nil, co_nilO, co_ps, co_p, co_p2, co_rows, ev_ll, ev_ol, ev_lo, ev_oo, ev_ln, ev_lno, ev_on, ev_ono, in_ps, in_row, gEq, gNe, gIn, gNotIn, g1, g2, gLen, gList, δof, List.getElem?_cons_zero, List.getElem?_cons_succ, List.getElem?_nil, List.set_cons_zero, List.set_cons_succ, List.map_cons, List.map_nil, List.length_cons, List.length_nil, List.replicate_succ, List.replicate_zero, List.cons_append, List.nil_append, Option.bind_some, Option.bind_none, List.all_cons, List.all_nil, List.append_nil, Nat.reduceAdd, Nat.reduceSub, true_and, and_true, Bool.and_true, Bool.true_and]
  refine ⟨ys, ps, .scr ns, ns, rfl, rfl, ⟨rfl, rfl, rfl⟩, by omega, fun zs hz => ?_⟩
  refine ⟨.scr ns, ns, n, 7, rfl, ints_s ns, by omega, ⟨by decide, by decide⟩, by omega, ?_⟩
  simp only [dSeq, dIfS, dT, dTn, dTa, dTo, dOp, dVar, dC, dFz_eq, dCB, dCons, dNil, dCall, dCallB, dMeth, dMethB, dSet, dApp, dExt, dRet, dRetM, dNx, dDrop, dNeg, dAnd, dOr, dNot, dIf, dCh, dCh3, dU, dTup, dLst, dFld, dIsi, dIl, dIe, dIr1, dIr2, dIv1, dgN, dgT, putAll, dFor, dPar2, dPar3, dSetT, dLc, dYes, dSl, dNo, dSome, dRev, dNev, dSset, dCount, dIndex, dLrg1, dLrg2, dTwo, un_non, un_int, un_bl, un_str, un_lst, un_tup, un_obj, un_dct, un_scr, un_olst, un_oll, un_oobj, un_mv, un_m, un_p, pl_non, pl_int, pl_bl, pl_str, pl_lst, pl_tup, pl_obj, pl_dct, pl_scr, pl_m, pl_p, fzm_non, fzm_int, fzm_bl, fzm_lst, fzm_tup, fzm_obj, fzm_scr, fzm_olst, fzm_oll, fzm_oobj, fzm_m, frz_non, frz_int, frz_bl, frz_str, frz_lst, frz_tup, frz_obj, frz_dct, frz_scr, frz_olst, frz_oll, frz_m, fz_no, fz_tr, see_no, see_tr, asB_bl, asI_int, asgD_non, asgD_int, asgD_bl, asgD_lst, asgD_tup, asgD_obj, asgD_mv, asgD_m, it_lst, it_olst, it_scr, li_lst, li_olst, pit_lst, pit_scr, sz_lst, sz_olst, sz_oll, sz_scr, sz_tup, ad_int, ad_ll, ad_oo, ad_lo, ad_ol, mu_int, mu_l, mu_o, gI_int, gI0_int, gI2_int, ii_eqv, co_int, co_bl, co_non, co_row, co_rowO, co_nil, co_nilO, co_ps, co_p, co_p2, co_rows, ev_ll, ev_ol, ev_lo, ev_oo, ev_ln, ev_lno, ev_on, ev_ono, in_ps, in_row, gEq, gNe, gIn, gNotIn, g1, g2, gLen, gList, δof, List.getElem?_cons_zero, List.getElem?_cons_succ, List.getElem?_nil, List.set_cons_zero, List.set_cons_succ, List.map_cons, List.map_nil, List.length_cons, List.length_nil, List.replicate_succ, List.replicate_zero, List.cons_append, List.nil_append, Option.bind_some, Option.bind_none, List.all_cons, List.all_nil, List.append_nil, Nat.reduceAdd, Nat.reduceSub, true_and, and_true, Bool.and_true, Bool.true_and]
  have e1 : cutD (ys.map D.int) (some 1) none = (cutD ys (some 1) none).map D.int := by
    unfold cutD
    rw [List.length_map, List.map_take, List.map_drop]
  have sub : ∀ x ∈ cutD ys (some 1) none, x ∈ ys := fun x hx => List.mem_of_mem_drop (List.mem_of_mem_take hx)
  have lc : (cutD ys (some 1) none).length ≤ ys.length := by
    unfold cutD
    rw [List.length_take, List.length_drop]
    omega
  rw [e1]
  generalize cutD ys (some 1) none = us at sub lc
  have fin : ∀ (ps : List (Int × Int)) (vs : List Int) (P : D → Prop), Kinds n vs ∧ vs.length ≤ 130 → P (.bl true) → G_law_right K [mD (He.ga K "Minds") n ps, .int n, .lst (ps.map pD), .lst (xs.map .int), .lst (vs.map .int)] P := fun ps vs P hv hP => ⟨n, ps, xs, vs, rfl, ⟨kx, by omega⟩, hv, hP⟩
  refine ⟨by decide, ?_⟩
  refine law_f (K := K) (n := n) (ps := ps) (xs := xs) ⟨kx, by omega⟩ (fun e6 => ?_) [ys, zs, rowOf ns n 7, us, ys] (fun vs hv => ?_) _
  · simp only [mK, rD, dSeq, dIfS, dT, dTn, dTa, dTo, dOp, dVar, dC, dFz_eq, dCB, dCons, dNil, dCall, dCallB, dMeth, dMethB, dSet, dApp, dExt, dRet, dRetM, dNx, dDrop, dNeg, dAnd, dOr, dNot, dIf, dCh, dCh3, dU, dTup, dLst, dFld, dIsi, dIl, dIe, dIr1, dIr2, dIv1, dgN, dgT, putAll, dFor, dPar2, dPar3, dSetT, dLc, dYes, dSl, dNo, dSome, dRev, dNev, dSset, dCount, dIndex, dLrg1, dLrg2, dTwo, un_non, un_int, un_bl, un_str, un_lst, un_tup, un_obj, un_dct, un_scr, un_olst, un_oll, un_oobj, un_mv, un_m, un_p, pl_non, pl_int, pl_bl, pl_str, pl_lst, pl_tup, pl_obj, pl_dct, pl_scr, pl_m, pl_p, fzm_non, fzm_int, fzm_bl, fzm_lst, fzm_tup, fzm_obj, fzm_scr, fzm_olst, fzm_oll, fzm_oobj, fzm_m, frz_non, frz_int, frz_bl, frz_str, frz_lst, frz_tup, frz_obj, frz_dct, frz_scr, frz_olst, frz_oll, frz_m, fz_no, fz_tr, see_no, see_tr, asB_bl, asI_int, asgD_non, asgD_int, asgD_bl, asgD_lst, asgD_tup, asgD_obj, asgD_mv, asgD_m, it_lst, it_olst, it_scr, li_lst, li_olst, pit_lst, pit_scr, sz_lst, sz_olst, sz_oll, sz_scr, sz_tup, ad_int, ad_ll, ad_oo, ad_lo, ad_ol, mu_int, mu_l, mu_o, gI_int, gI0_int, gI2_int, ii_eqv, co_int, co_bl, co_non, co_row, co_rowO, co_nil, co_nilO, co_ps, co_p, co_p2, co_rows, ev_ll, ev_ol, ev_lo, ev_oo, ev_ln, ev_lno, ev_on, ev_ono, in_ps, in_row, gEq, gNe, gIn, gNotIn, g1, g2, gLen, gList, δof, List.getElem?_cons_zero, List.getElem?_cons_succ, List.getElem?_nil, List.set_cons_zero, List.set_cons_succ, List.map_cons, List.map_nil, List.length_cons, List.length_nil, List.replicate_succ, List.replicate_zero, List.cons_append, List.nil_append, Option.bind_some, Option.bind_none, List.all_cons, List.all_nil, List.append_nil, Nat.reduceAdd, Nat.reduceSub, true_and, and_true, Bool.and_true, Bool.true_and]
    refine ⟨.scr ns, ns, n, 7, rfl, ints_s ns, by omega, ⟨by decide, by decide⟩, by omega, ?_⟩
    simp only [dSeq, dIfS, dT, dTn, dTa, dTo, dOp, dVar, dC, dFz_eq, dCB, dCons, dNil, dCall, dCallB, dMeth, dMethB, dSet, dApp, dExt, dRet, dRetM, dNx, dDrop, dNeg, dAnd, dOr, dNot, dIf, dCh, dCh3, dU, dTup, dLst, dFld, dIsi, dIl, dIe, dIr1, dIr2, dIv1, dgN, dgT, putAll, dFor, dPar2, dPar3, dSetT, dLc, dYes, dSl, dNo, dSome, dRev, dNev, dSset, dCount, dIndex, dLrg1, dLrg2, dTwo, un_non, un_int, un_bl, un_str, un_lst, un_tup, un_obj, un_dct, un_scr, un_olst, un_oll, un_oobj, un_mv, un_m, un_p, pl_non, pl_int, pl_bl, pl_str, pl_lst, pl_tup, pl_obj, pl_dct, pl_scr, pl_m, pl_p, fzm_non, fzm_int, fzm_bl, fzm_lst, fzm_tup, fzm_obj, fzm_scr, fzm_olst, fzm_oll, fzm_oobj, fzm_m, frz_non, frz_int, frz_bl, frz_str, frz_lst, frz_tup, frz_obj, frz_dct, frz_scr, frz_olst, frz_oll, frz_m, fz_no, fz_tr, see_no, see_tr, asB_bl, asI_int, asgD_non, asgD_int, asgD_bl, asgD_lst, asgD_tup, asgD_obj, asgD_mv, asgD_m, it_lst, it_olst, it_scr, li_lst, li_olst, pit_lst, pit_scr, sz_lst, sz_olst, sz_oll, sz_scr, sz_tup, ad_int, ad_ll, ad_oo, ad_lo, ad_ol, mu_int, mu_l, mu_o, gI_int, gI0_int, gI2_int, ii_eqv, co_int, co_bl, co_non, co_row, co_rowO, co_nil, co_nilO, co_ps, co_p, co_p2, co_rows, ev_ll, ev_ol, ev_lo, ev_oo, ev_ln, ev_lno, ev_on, ev_ono, in_ps, in_row, gEq, gNe, gIn, gNotIn, g1, g2, gLen, gList, δof, List.getElem?_cons_zero, List.getElem?_cons_succ, List.getElem?_nil, List.set_cons_zero, List.set_cons_succ, List.map_cons, List.map_nil, List.length_cons, List.length_nil, List.replicate_succ, List.replicate_zero, List.cons_append, List.nil_append, Option.bind_some, Option.bind_none, List.all_cons, List.all_nil, List.append_nil, Nat.reduceAdd, Nat.reduceSub, true_and, and_true, Bool.and_true, Bool.true_and]
    have r7 : Kinds n (rowOf ns n 7) ∧ (rowOf ns n 7).length ≤ 130 := ⟨k7, by omega⟩
    refine ⟨by decide, n, [], rfl, h1, no_pairs, by decide, rfl, fin [] _ _ r7 ?_⟩
    simp only [dSeq, dIfS, dT, dTn, dTa, dTo, dOp, dVar, dC, dFz_eq, dCB, dCons, dNil, dCall, dCallB, dMeth, dMethB, dSet, dApp, dExt, dRet, dRetM, dNx, dDrop, dNeg, dAnd, dOr, dNot, dIf, dCh, dCh3, dU, dTup, dLst, dFld, dIsi, dIl, dIe, dIr1, dIr2, dIv1, dgN, dgT, putAll, dFor, dPar2, dPar3, dSetT, dLc, dYes, dSl, dNo, dSome, dRev, dNev, dSset, dCount, dIndex, dLrg1, dLrg2, dTwo, un_non, un_int, un_bl, un_str, un_lst, un_tup, un_obj, un_dct, un_scr, un_olst, un_oll, un_oobj, un_mv, un_m, un_p, pl_non, pl_int, pl_bl, pl_str, pl_lst, pl_tup, pl_obj, pl_dct, pl_scr, pl_m, pl_p, fzm_non, fzm_int, fzm_bl, fzm_lst, fzm_tup, fzm_obj, fzm_scr, fzm_olst, fzm_oll, fzm_oobj, fzm_m, frz_non, frz_int, frz_bl, frz_str, frz_lst, frz_tup, frz_obj, frz_dct, frz_scr, frz_olst, frz_oll, frz_m, fz_no, fz_tr, see_no, see_tr, asB_bl, asI_int, asgD_non, asgD_int, asgD_bl, asgD_lst, asgD_tup, asgD_obj, asgD_mv, asgD_m, it_lst, it_olst, it_scr, li_lst, li_olst, pit_lst, pit_scr, sz_lst, sz_olst, sz_oll, sz_scr, sz_tup, ad_int, ad_ll, ad_oo, ad_lo, ad_ol, mu_int, mu_l, mu_o, gI_int, gI0_int, gI2_int, ii_eqv, co_int, co_bl, co_non, co_row, co_rowO, co_nil, co_nilO, co_ps, co_p, co_p2, co_rows, ev_ll, ev_ol, ev_lo, ev_oo, ev_ln, ev_lno, ev_on, ev_ono, in_ps, in_row, gEq, gNe, gIn, gNotIn, g1, g2, gLen, gList, δof, List.getElem?_cons_zero, List.getElem?_cons_succ, List.getElem?_nil, List.set_cons_zero, List.set_cons_succ, List.map_cons, List.map_nil, List.length_cons, List.length_nil, List.replicate_succ, List.replicate_zero, List.cons_append, List.nil_append, Option.bind_some, Option.bind_none, List.all_cons, List.all_nil, List.append_nil, Nat.reduceAdd, Nat.reduceSub, true_and, and_true, Bool.and_true, Bool.true_and, Bool.not_true]
    refine fin ps _ _ r7 ?_
    simp only [dSeq, dIfS, dT, dTn, dTa, dTo, dOp, dVar, dC, dFz_eq, dCB, dCons, dNil, dCall, dCallB, dMeth, dMethB, dSet, dApp, dExt, dRet, dRetM, dNx, dDrop, dNeg, dAnd, dOr, dNot, dIf, dCh, dCh3, dU, dTup, dLst, dFld, dIsi, dIl, dIe, dIr1, dIr2, dIv1, dgN, dgT, putAll, dFor, dPar2, dPar3, dSetT, dLc, dYes, dSl, dNo, dSome, dRev, dNev, dSset, dCount, dIndex, dLrg1, dLrg2, dTwo, un_non, un_int, un_bl, un_str, un_lst, un_tup, un_obj, un_dct, un_scr, un_olst, un_oll, un_oobj, un_mv, un_m, un_p, pl_non, pl_int, pl_bl, pl_str, pl_lst, pl_tup, pl_obj, pl_dct, pl_scr, pl_m, pl_p, fzm_non, fzm_int, fzm_bl, fzm_lst, fzm_tup, fzm_obj, fzm_scr, fzm_olst, fzm_oll, fzm_oobj, fzm_m, frz_non, frz_int, frz_bl, frz_str, frz_lst, frz_tup, frz_obj, frz_dct, frz_scr, frz_olst, frz_oll, frz_m, fz_no, fz_tr, see_no, see_tr, asB_bl, asI_int, asgD_non, asgD_int, asgD_bl, asgD_lst, asgD_tup, asgD_obj, asgD_mv, asgD_m, it_lst, it_olst, it_scr, li_lst, li_olst, pit_lst, pit_scr, sz_lst, sz_olst, sz_oll, sz_scr, sz_tup, ad_int, ad_ll, ad_oo, ad_lo, ad_ol, mu_int, mu_l, mu_o, gI_int, gI0_int, gI2_int, ii_eqv, co_int, co_bl, co_non, co_row, co_rowO, co_nil, co_nilO, co_ps, co_p, co_p2, co_rows, ev_ll, ev_ol, ev_lo, ev_oo, ev_ln, ev_lno, ev_on, ev_ono, in_ps, in_row, gEq, gNe, gIn, gNotIn, g1, g2, gLen, gList, δof, List.getElem?_cons_zero, List.getElem?_cons_succ, List.getElem?_nil, List.set_cons_zero, List.set_cons_succ, List.map_cons, List.map_nil, List.length_cons, List.length_nil, List.replicate_succ, List.replicate_zero, List.cons_append, List.nil_append, Option.bind_some, Option.bind_none, List.all_cons, List.all_nil, List.append_nil, Nat.reduceAdd, Nat.reduceSub, true_and, and_true, Bool.and_true, Bool.true_and, Bool.not_true]
    refine ⟨by decide, n, [], rfl, h1, no_pairs, by decide, rfl, ?_⟩
    have z := fin [] xs.reverse Q ⟨fun x hx => kx x (List.mem_reverse.mp hx), by rw [List.length_reverse]; omega⟩ h
    rw [List.map_reverse] at z
    exact z
  · simp only [List.mem_cons, List.not_mem_nil, or_false] at hv
    have kz : Kinds n zs := fun x hx => ky x (hz.mem_iff.mp hx)
    have lz := hz.length_eq
    rcases hv with rfl | rfl | rfl | rfl | rfl
    · exact ⟨ky, by omega⟩
    · exact ⟨kz, by omega⟩
    · exact ⟨k7, by omega⟩
    · exact ⟨fun x hx => ky x (sub x hx), by omega⟩
    · exact ⟨ky, by omega⟩
end J
/-! the text of the law, def by def -/
namespace J
open PySem PySem.Spec PyProof.Rows L2
def top (i : Nat) : Stmt := PySem.Challenge.pw_jostle_k02_whole_alike.main.body.getD i (.Pass ⟨0, 0, 0, 0⟩)
abbrev s_is_number : Stmt := top 5
theorem sc_is_number : FnScope N_is_number ["thing"] (defScope s_is_number) := ⟨rfl, rfl, rfl, by decide +kernel, rfl, by decide +kernel, by decide +kernel⟩
abbrev s_is_pair : Stmt := top 6
theorem sc_is_pair : FnScope N_is_pair ["thing", "kinds"] (defScope s_is_pair) := ⟨rfl, rfl, rfl, by decide +kernel, rfl, by decide +kernel, by decide +kernel⟩
abbrev s_Minds_init : Stmt := inClass (top 7) 0
theorem sc_Minds_init : FnScope N_Minds_init ["self", "kinds", "pairs"] (defScope s_Minds_init) := ⟨rfl, rfl, rfl, by decide +kernel, rfl, by decide +kernel, by decide +kernel⟩
abbrev s_Minds_minding : Stmt := inClass (top 7) 3
theorem sc_Minds_minding : FnScope N_Minds_minding ["self", "one", "other"] (defScope s_Minds_minding) := ⟨rfl, rfl, rfl, by decide +kernel, rfl, by decide +kernel, by decide +kernel⟩
abbrev s_Minds_is_kind : Stmt := inClass (top 7) 4
theorem sc_Minds_is_kind : FnScope N_Minds_is_kind ["self", "thing"] (defScope s_Minds_is_kind) := ⟨rfl, rfl, rfl, by decide +kernel, rfl, by decide +kernel, by decide +kernel⟩
abbrev s_check_row : Stmt := top 8
theorem sc_check_row : FnScope N_check_row ["minds", "row"] (defScope s_check_row) := ⟨rfl, rfl, rfl, by decide +kernel, rfl, by decide +kernel, by decide +kernel⟩
abbrev s_part_of : Stmt := top 9
theorem sc_part_of : FnScope N_part_of ["row", "one", "other"] (defScope s_part_of) := ⟨rfl, rfl, rfl, by decide +kernel, rfl, by decide +kernel, by decide +kernel⟩
abbrev s_place_first : Stmt := top 11
theorem sc_place_first : FnScope N_place_first ["minds", "row", "kind"] (defScope s_place_first) := ⟨rfl, rfl, rfl, by decide +kernel, rfl, by decide +kernel, by decide +kernel⟩
abbrev s_without : Stmt := top 12
theorem sc_without : FnScope N_without ["row", "place"] (defScope s_without) := ⟨rfl, rfl, rfl, by decide +kernel, rfl, by decide +kernel, by decide +kernel⟩
abbrev s_led : Stmt := top 13
theorem sc_led : FnScope N_led ["minds", "one", "other"] (defScope s_led) := ⟨rfl, rfl, rfl, by decide +kernel, rfl, by decide +kernel, by decide +kernel⟩
abbrev s_couples : Stmt := top 14
theorem sc_couples : FnScope N_couples ["minds", "one", "other"] (defScope s_couples) := ⟨rfl, rfl, rfl, by decide +kernel, rfl, by decide +kernel, by decide +kernel⟩
abbrev s_unlike : Stmt := top 16
theorem sc_unlike : FnScope N_unlike ["minds", "one", "other"] (defScope s_unlike) := ⟨rfl, rfl, rfl, by decide +kernel, rfl, by decide +kernel, by decide +kernel⟩
abbrev s_are_kinds : Stmt := top 20
theorem sc_are_kinds : FnScope N_are_kinds ["minds", "kinds"] (defScope s_are_kinds) := ⟨rfl, rfl, rfl, by decide +kernel, rfl, by decide +kernel, by decide +kernel⟩
abbrev s_Same_init : Stmt := inClass (top 22) 0
theorem sc_Same_init : FnScope N_Same_init ["self", "places"] (defScope s_Same_init) := ⟨rfl, rfl, rfl, by decide +kernel, rfl, by decide +kernel, by decide +kernel⟩
abbrev s_Same_shows : Stmt := inClass (top 22) 1
theorem sc_Same_shows : FnScope N_Same_shows ["self", "minds", "row", "another"] (defScope s_Same_shows) := ⟨rfl, rfl, rfl, by decide +kernel, rfl, by decide +kernel, by decide +kernel⟩
abbrev s_parts : Stmt := top 23
theorem sc_parts : FnScope N_parts ["minds", "one", "other", "row", "another"] (defScope s_parts) := ⟨rfl, rfl, rfl, by decide +kernel, rfl, by decide +kernel, by decide +kernel⟩
abbrev s_Unlike_init : Stmt := inClass (top 24) 0
theorem sc_Unlike_init : FnScope N_Unlike_init ["self", "one", "other"] (defScope s_Unlike_init) := ⟨rfl, rfl, rfl, by decide +kernel, rfl, by decide +kernel, by decide +kernel⟩
abbrev s_Unlike_shows : Stmt := inClass (top 24) 1
theorem sc_Unlike_shows : FnScope N_Unlike_shows ["self", "minds", "row", "another"] (defScope s_Unlike_shows) := ⟨rfl, rfl, rfl, by decide +kernel, rfl, by decide +kernel, by decide +kernel⟩
abbrev s_check_two : Stmt := top 33
theorem sc_check_two : FnScope N_check_two ["minds", "one", "other"] (defScope s_check_two) := ⟨rfl, rfl, rfl, by decide +kernel, rfl, by decide +kernel, by decide +kernel⟩
abbrev s_alike : Stmt := top 34
theorem sc_alike : FnScope N_alike ["minds", "one", "other"] (defScope s_alike) := ⟨rfl, rfl, rfl, by decide +kernel, rfl, by decide +kernel, by decide +kernel⟩
abbrev s_law_minds : Stmt := top 36
theorem sc_law_minds : FnScope N_law_minds ["_law_script"] (defScope s_law_minds) := ⟨rfl, rfl, rfl, by decide +kernel, rfl, by decide +kernel, by decide +kernel⟩
abbrev s_law_mind : Stmt := top 37
theorem sc_law_mind : FnScope N_law_mind ["_law_pairs", "_law_one", "_law_other"] (defScope s_law_mind) := ⟨rfl, rfl, rfl, by decide +kernel, rfl, by decide +kernel, by decide +kernel⟩
abbrev s_law_row : Stmt := top 38
theorem sc_law_row : FnScope N_law_row ["_law_script", "_law_kinds", "_law_by"] (defScope s_law_row) := ⟨rfl, rfl, rfl, by decide +kernel, rfl, by decide +kernel, by decide +kernel⟩
abbrev s_law_jostled : Stmt := top 39
theorem sc_law_jostled : FnScope N_law_jostled ["_law_row_here", "_law_pairs", "_law_script"] (defScope s_law_jostled) := ⟨rfl, rfl, rfl, by decide +kernel, rfl, by decide +kernel, by decide +kernel⟩
abbrev s_law_crossed : Stmt := top 40
theorem sc_law_crossed : FnScope N_law_crossed ["_law_row_here", "_law_pairs", "_law_script"] (defScope s_law_crossed) := ⟨rfl, rfl, rfl, by decide +kernel, rfl, by decide +kernel, by decide +kernel⟩
abbrev s_law_part : Stmt := top 41
theorem sc_law_part : FnScope N_law_part ["_law_row_here", "_law_one", "_law_other"] (defScope s_law_part) := ⟨rfl, rfl, rfl, by decide +kernel, rfl, by decide +kernel, by decide +kernel⟩
abbrev s_law_couple : Stmt := top 42
theorem sc_law_couple : FnScope N_law_couple ["_law_kinds", "_law_pairs", "_law_one", "_law_other"] (defScope s_law_couple) := ⟨rfl, rfl, rfl, by decide +kernel, rfl, by decide +kernel, by decide +kernel⟩
abbrev s_law_is_row : Stmt := top 43
theorem sc_law_is_row : FnScope N_law_is_row ["_law_row_here", "_law_kinds"] (defScope s_law_is_row) := ⟨rfl, rfl, rfl, by decide +kernel, rfl, by decide +kernel, by decide +kernel⟩
abbrev s_law_same : Stmt := top 44
theorem sc_law_same : FnScope N_law_same ["_law_kinds", "_law_pairs", "_law_one", "_law_other"] (defScope s_law_same) := ⟨rfl, rfl, rfl, by decide +kernel, rfl, by decide +kernel, by decide +kernel⟩
abbrev s_law_due : Stmt := top 45
theorem sc_law_due : FnScope N_law_due ["_law_kinds", "_law_pairs", "_law_one", "_law_other", "_law_found"] (defScope s_law_due) := ⟨rfl, rfl, rfl, by decide +kernel, rfl, by decide +kernel, by decide +kernel⟩
abbrev s_law_right : Stmt := top 46
theorem sc_law_right : FnScope N_law_right ["_law_minds_here", "_law_kinds", "_law_pairs", "_law_one", "_law_other"] (defScope s_law_right) := ⟨rfl, rfl, rfl, by decide +kernel, rfl, by decide +kernel, by decide +kernel⟩
abbrev s_law : Stmt := top 47
theorem sc_law : FnScope N_law ["_law_script"] (defScope s_law) := ⟨rfl, rfl, rfl, by decide +kernel, rfl, by decide +kernel, by decide +kernel⟩
theorem hn_is_number {K : PySem.W.Frag} : ∀ ds P, G_is_number K ds P → ds.length = 1 := fun ds P h => by first | (obtain ⟨rfl, _⟩ := h; rfl) | (obtain ⟨_, rfl, _⟩ := h; rfl) | (obtain ⟨_, _, rfl, _⟩ := h; rfl) | (obtain ⟨_, _, _, rfl, _⟩ := h; rfl) | (obtain ⟨_, _, _, _, rfl, _⟩ := h; rfl) | (obtain ⟨_, _, _, _, _, rfl, _⟩ := h; rfl) | (obtain ⟨_, _, _, _, _, _, rfl, _⟩ := h; rfl) | (obtain ⟨_, _, _, _, _, _, _, rfl, _⟩ := h; rfl) | (obtain ⟨_, _, _, _, _, _, _, _, rfl, _⟩ := h; rfl) | (obtain ⟨_, _, _, _, _, _, _, _, _, rfl, _⟩ := h; rfl)
theorem hn_is_pair {K : PySem.W.Frag} : ∀ ds P, G_is_pair K ds P → ds.length = 2 := fun ds P h => by first | (obtain ⟨rfl, _⟩ := h; rfl) | (obtain ⟨_, rfl, _⟩ := h; rfl) | (obtain ⟨_, _, rfl, _⟩ := h; rfl) | (obtain ⟨_, _, _, rfl, _⟩ := h; rfl) | (obtain ⟨_, _, _, _, rfl, _⟩ := h; rfl) | (obtain ⟨_, _, _, _, _, rfl, _⟩ := h; rfl) | (obtain ⟨_, _, _, _, _, _, rfl, _⟩ := h; rfl) | (obtain ⟨_, _, _, _, _, _, _, rfl, _⟩ := h; rfl) | (obtain ⟨_, _, _, _, _, _, _, _, rfl, _⟩ := h; rfl) | (obtain ⟨_, _, _, _, _, _, _, _, _, rfl, _⟩ := h; rfl)
theorem hn_Minds_init {K : PySem.W.Frag} : ∀ ds P, G_Minds_init K ds P → ds.length = 2 := fun ds P h => by first | (obtain ⟨rfl, _⟩ := h; rfl) | (obtain ⟨_, rfl, _⟩ := h; rfl) | (obtain ⟨_, _, rfl, _⟩ := h; rfl) | (obtain ⟨_, _, _, rfl, _⟩ := h; rfl) | (obtain ⟨_, _, _, _, rfl, _⟩ := h; rfl) | (obtain ⟨_, _, _, _, _, rfl, _⟩ := h; rfl) | (obtain ⟨_, _, _, _, _, _, rfl, _⟩ := h; rfl) | (obtain ⟨_, _, _, _, _, _, _, rfl, _⟩ := h; rfl) | (obtain ⟨_, _, _, _, _, _, _, _, rfl, _⟩ := h; rfl) | (obtain ⟨_, _, _, _, _, _, _, _, _, rfl, _⟩ := h; rfl)
theorem hn_Minds_minding {K : PySem.W.Frag} : ∀ ds P, G_Minds_minding K ds P → ds.length = 3 := fun ds P h => by first | (obtain ⟨rfl, _⟩ := h; rfl) | (obtain ⟨_, rfl, _⟩ := h; rfl) | (obtain ⟨_, _, rfl, _⟩ := h; rfl) | (obtain ⟨_, _, _, rfl, _⟩ := h; rfl) | (obtain ⟨_, _, _, _, rfl, _⟩ := h; rfl) | (obtain ⟨_, _, _, _, _, rfl, _⟩ := h; rfl) | (obtain ⟨_, _, _, _, _, _, rfl, _⟩ := h; rfl) | (obtain ⟨_, _, _, _, _, _, _, rfl, _⟩ := h; rfl) | (obtain ⟨_, _, _, _, _, _, _, _, rfl, _⟩ := h; rfl) | (obtain ⟨_, _, _, _, _, _, _, _, _, rfl, _⟩ := h; rfl)
theorem hn_Minds_is_kind {K : PySem.W.Frag} : ∀ ds P, G_Minds_is_kind K ds P → ds.length = 2 := fun ds P h => by first | (obtain ⟨rfl, _⟩ := h; rfl) | (obtain ⟨_, rfl, _⟩ := h; rfl) | (obtain ⟨_, _, rfl, _⟩ := h; rfl) | (obtain ⟨_, _, _, rfl, _⟩ := h; rfl) | (obtain ⟨_, _, _, _, rfl, _⟩ := h; rfl) | (obtain ⟨_, _, _, _, _, rfl, _⟩ := h; rfl) | (obtain ⟨_, _, _, _, _, _, rfl, _⟩ := h; rfl) | (obtain ⟨_, _, _, _, _, _, _, rfl, _⟩ := h; rfl) | (obtain ⟨_, _, _, _, _, _, _, _, rfl, _⟩ := h; rfl) | (obtain ⟨_, _, _, _, _, _, _, _, _, rfl, _⟩ := h; rfl)
theorem hn_check_row {K : PySem.W.Frag} : ∀ ds P, G_check_row K ds P → ds.length = 2 := fun ds P h => by first | (obtain ⟨rfl, _⟩ := h; rfl) | (obtain ⟨_, rfl, _⟩ := h; rfl) | (obtain ⟨_, _, rfl, _⟩ := h; rfl) | (obtain ⟨_, _, _, rfl, _⟩ := h; rfl) | (obtain ⟨_, _, _, _, rfl, _⟩ := h; rfl) | (obtain ⟨_, _, _, _, _, rfl, _⟩ := h; rfl) | (obtain ⟨_, _, _, _, _, _, rfl, _⟩ := h; rfl) | (obtain ⟨_, _, _, _, _, _, _, rfl, _⟩ := h; rfl) | (obtain ⟨_, _, _, _, _, _, _, _, rfl, _⟩ := h; rfl) | (obtain ⟨_, _, _, _, _, _, _, _, _, rfl, _⟩ := h; rfl)
theorem hn_part_of {K : PySem.W.Frag} : ∀ ds P, G_part_of K ds P → ds.length = 3 := fun ds P h => by first | (obtain ⟨rfl, _⟩ := h; rfl) | (obtain ⟨_, rfl, _⟩ := h; rfl) | (obtain ⟨_, _, rfl, _⟩ := h; rfl) | (obtain ⟨_, _, _, rfl, _⟩ := h; rfl) | (obtain ⟨_, _, _, _, rfl, _⟩ := h; rfl) | (obtain ⟨_, _, _, _, _, rfl, _⟩ := h; rfl) | (obtain ⟨_, _, _, _, _, _, rfl, _⟩ := h; rfl) | (obtain ⟨_, _, _, _, _, _, _, rfl, _⟩ := h; rfl) | (obtain ⟨_, _, _, _, _, _, _, _, rfl, _⟩ := h; rfl) | (obtain ⟨_, _, _, _, _, _, _, _, _, rfl, _⟩ := h; rfl)
theorem hn_place_first {K : PySem.W.Frag} : ∀ ds P, G_place_first K ds P → ds.length = 3 := fun ds P h => by first | (obtain ⟨rfl, _⟩ := h; rfl) | (obtain ⟨_, rfl, _⟩ := h; rfl) | (obtain ⟨_, _, rfl, _⟩ := h; rfl) | (obtain ⟨_, _, _, rfl, _⟩ := h; rfl) | (obtain ⟨_, _, _, _, rfl, _⟩ := h; rfl) | (obtain ⟨_, _, _, _, _, rfl, _⟩ := h; rfl) | (obtain ⟨_, _, _, _, _, _, rfl, _⟩ := h; rfl) | (obtain ⟨_, _, _, _, _, _, _, rfl, _⟩ := h; rfl) | (obtain ⟨_, _, _, _, _, _, _, _, rfl, _⟩ := h; rfl) | (obtain ⟨_, _, _, _, _, _, _, _, _, rfl, _⟩ := h; rfl)
theorem hn_without {K : PySem.W.Frag} : ∀ ds P, G_without K ds P → ds.length = 2 := fun ds P h => by first | (obtain ⟨rfl, _⟩ := h; rfl) | (obtain ⟨_, rfl, _⟩ := h; rfl) | (obtain ⟨_, _, rfl, _⟩ := h; rfl) | (obtain ⟨_, _, _, rfl, _⟩ := h; rfl) | (obtain ⟨_, _, _, _, rfl, _⟩ := h; rfl) | (obtain ⟨_, _, _, _, _, rfl, _⟩ := h; rfl) | (obtain ⟨_, _, _, _, _, _, rfl, _⟩ := h; rfl) | (obtain ⟨_, _, _, _, _, _, _, rfl, _⟩ := h; rfl) | (obtain ⟨_, _, _, _, _, _, _, _, rfl, _⟩ := h; rfl) | (obtain ⟨_, _, _, _, _, _, _, _, _, rfl, _⟩ := h; rfl)
theorem hn_led {K : PySem.W.Frag} : ∀ ds P, G_led K ds P → ds.length = 3 := fun ds P h => by first | (obtain ⟨rfl, _⟩ := h; rfl) | (obtain ⟨_, rfl, _⟩ := h; rfl) | (obtain ⟨_, _, rfl, _⟩ := h; rfl) | (obtain ⟨_, _, _, rfl, _⟩ := h; rfl) | (obtain ⟨_, _, _, _, rfl, _⟩ := h; rfl) | (obtain ⟨_, _, _, _, _, rfl, _⟩ := h; rfl) | (obtain ⟨_, _, _, _, _, _, rfl, _⟩ := h; rfl) | (obtain ⟨_, _, _, _, _, _, _, rfl, _⟩ := h; rfl) | (obtain ⟨_, _, _, _, _, _, _, _, rfl, _⟩ := h; rfl) | (obtain ⟨_, _, _, _, _, _, _, _, _, rfl, _⟩ := h; rfl)
theorem hn_couples {K : PySem.W.Frag} : ∀ ds P, G_couples K ds P → ds.length = 3 := fun ds P h => by first | (obtain ⟨rfl, _⟩ := h; rfl) | (obtain ⟨_, rfl, _⟩ := h; rfl) | (obtain ⟨_, _, rfl, _⟩ := h; rfl) | (obtain ⟨_, _, _, rfl, _⟩ := h; rfl) | (obtain ⟨_, _, _, _, rfl, _⟩ := h; rfl) | (obtain ⟨_, _, _, _, _, rfl, _⟩ := h; rfl) | (obtain ⟨_, _, _, _, _, _, rfl, _⟩ := h; rfl) | (obtain ⟨_, _, _, _, _, _, _, rfl, _⟩ := h; rfl) | (obtain ⟨_, _, _, _, _, _, _, _, rfl, _⟩ := h; rfl) | (obtain ⟨_, _, _, _, _, _, _, _, _, rfl, _⟩ := h; rfl)
theorem hn_unlike {K : PySem.W.Frag} : ∀ ds P, G_unlike K ds P → ds.length = 3 := fun ds P h => by first | (obtain ⟨rfl, _⟩ := h; rfl) | (obtain ⟨_, rfl, _⟩ := h; rfl) | (obtain ⟨_, _, rfl, _⟩ := h; rfl) | (obtain ⟨_, _, _, rfl, _⟩ := h; rfl) | (obtain ⟨_, _, _, _, rfl, _⟩ := h; rfl) | (obtain ⟨_, _, _, _, _, rfl, _⟩ := h; rfl) | (obtain ⟨_, _, _, _, _, _, rfl, _⟩ := h; rfl) | (obtain ⟨_, _, _, _, _, _, _, rfl, _⟩ := h; rfl) | (obtain ⟨_, _, _, _, _, _, _, _, rfl, _⟩ := h; rfl) | (obtain ⟨_, _, _, _, _, _, _, _, _, rfl, _⟩ := h; rfl)
theorem hn_are_kinds {K : PySem.W.Frag} : ∀ ds P, G_are_kinds K ds P → ds.length = 2 := fun ds P h => by first | (obtain ⟨rfl, _⟩ := h; rfl) | (obtain ⟨_, rfl, _⟩ := h; rfl) | (obtain ⟨_, _, rfl, _⟩ := h; rfl) | (obtain ⟨_, _, _, rfl, _⟩ := h; rfl) | (obtain ⟨_, _, _, _, rfl, _⟩ := h; rfl) | (obtain ⟨_, _, _, _, _, rfl, _⟩ := h; rfl) | (obtain ⟨_, _, _, _, _, _, rfl, _⟩ := h; rfl) | (obtain ⟨_, _, _, _, _, _, _, rfl, _⟩ := h; rfl) | (obtain ⟨_, _, _, _, _, _, _, _, rfl, _⟩ := h; rfl) | (obtain ⟨_, _, _, _, _, _, _, _, _, rfl, _⟩ := h; rfl)
theorem hn_Same_init {K : PySem.W.Frag} : ∀ ds P, G_Same_init K ds P → ds.length = 1 := fun ds P h => by first | (obtain ⟨rfl, _⟩ := h; rfl) | (obtain ⟨_, rfl, _⟩ := h; rfl) | (obtain ⟨_, _, rfl, _⟩ := h; rfl) | (obtain ⟨_, _, _, rfl, _⟩ := h; rfl) | (obtain ⟨_, _, _, _, rfl, _⟩ := h; rfl) | (obtain ⟨_, _, _, _, _, rfl, _⟩ := h; rfl) | (obtain ⟨_, _, _, _, _, _, rfl, _⟩ := h; rfl) | (obtain ⟨_, _, _, _, _, _, _, rfl, _⟩ := h; rfl) | (obtain ⟨_, _, _, _, _, _, _, _, rfl, _⟩ := h; rfl) | (obtain ⟨_, _, _, _, _, _, _, _, _, rfl, _⟩ := h; rfl)
theorem hn_Same_shows {K : PySem.W.Frag} : ∀ ds P, G_Same_shows K ds P → ds.length = 4 := fun ds P h => by first | (obtain ⟨rfl, _⟩ := h; rfl) | (obtain ⟨_, rfl, _⟩ := h; rfl) | (obtain ⟨_, _, rfl, _⟩ := h; rfl) | (obtain ⟨_, _, _, rfl, _⟩ := h; rfl) | (obtain ⟨_, _, _, _, rfl, _⟩ := h; rfl) | (obtain ⟨_, _, _, _, _, rfl, _⟩ := h; rfl) | (obtain ⟨_, _, _, _, _, _, rfl, _⟩ := h; rfl) | (obtain ⟨_, _, _, _, _, _, _, rfl, _⟩ := h; rfl) | (obtain ⟨_, _, _, _, _, _, _, _, rfl, _⟩ := h; rfl) | (obtain ⟨_, _, _, _, _, _, _, _, _, rfl, _⟩ := h; rfl)
theorem hn_parts {K : PySem.W.Frag} : ∀ ds P, G_parts K ds P → ds.length = 5 := fun ds P h => by first | (obtain ⟨rfl, _⟩ := h; rfl) | (obtain ⟨_, rfl, _⟩ := h; rfl) | (obtain ⟨_, _, rfl, _⟩ := h; rfl) | (obtain ⟨_, _, _, rfl, _⟩ := h; rfl) | (obtain ⟨_, _, _, _, rfl, _⟩ := h; rfl) | (obtain ⟨_, _, _, _, _, rfl, _⟩ := h; rfl) | (obtain ⟨_, _, _, _, _, _, rfl, _⟩ := h; rfl) | (obtain ⟨_, _, _, _, _, _, _, rfl, _⟩ := h; rfl) | (obtain ⟨_, _, _, _, _, _, _, _, rfl, _⟩ := h; rfl) | (obtain ⟨_, _, _, _, _, _, _, _, _, rfl, _⟩ := h; rfl)
theorem hn_Unlike_init {K : PySem.W.Frag} : ∀ ds P, G_Unlike_init K ds P → ds.length = 2 := fun ds P h => by first | (obtain ⟨rfl, _⟩ := h; rfl) | (obtain ⟨_, rfl, _⟩ := h; rfl) | (obtain ⟨_, _, rfl, _⟩ := h; rfl) | (obtain ⟨_, _, _, rfl, _⟩ := h; rfl) | (obtain ⟨_, _, _, _, rfl, _⟩ := h; rfl) | (obtain ⟨_, _, _, _, _, rfl, _⟩ := h; rfl) | (obtain ⟨_, _, _, _, _, _, rfl, _⟩ := h; rfl) | (obtain ⟨_, _, _, _, _, _, _, rfl, _⟩ := h; rfl) | (obtain ⟨_, _, _, _, _, _, _, _, rfl, _⟩ := h; rfl) | (obtain ⟨_, _, _, _, _, _, _, _, _, rfl, _⟩ := h; rfl)
theorem hn_Unlike_shows {K : PySem.W.Frag} : ∀ ds P, G_Unlike_shows K ds P → ds.length = 4 := fun ds P h => by first | (obtain ⟨rfl, _⟩ := h; rfl) | (obtain ⟨_, rfl, _⟩ := h; rfl) | (obtain ⟨_, _, rfl, _⟩ := h; rfl) | (obtain ⟨_, _, _, rfl, _⟩ := h; rfl) | (obtain ⟨_, _, _, _, rfl, _⟩ := h; rfl) | (obtain ⟨_, _, _, _, _, rfl, _⟩ := h; rfl) | (obtain ⟨_, _, _, _, _, _, rfl, _⟩ := h; rfl) | (obtain ⟨_, _, _, _, _, _, _, rfl, _⟩ := h; rfl) | (obtain ⟨_, _, _, _, _, _, _, _, rfl, _⟩ := h; rfl) | (obtain ⟨_, _, _, _, _, _, _, _, _, rfl, _⟩ := h; rfl)
theorem hn_check_two {K : PySem.W.Frag} : ∀ ds P, G_check_two K ds P → ds.length = 3 := fun ds P h => by first | (obtain ⟨rfl, _⟩ := h; rfl) | (obtain ⟨_, rfl, _⟩ := h; rfl) | (obtain ⟨_, _, rfl, _⟩ := h; rfl) | (obtain ⟨_, _, _, rfl, _⟩ := h; rfl) | (obtain ⟨_, _, _, _, rfl, _⟩ := h; rfl) | (obtain ⟨_, _, _, _, _, rfl, _⟩ := h; rfl) | (obtain ⟨_, _, _, _, _, _, rfl, _⟩ := h; rfl) | (obtain ⟨_, _, _, _, _, _, _, rfl, _⟩ := h; rfl) | (obtain ⟨_, _, _, _, _, _, _, _, rfl, _⟩ := h; rfl) | (obtain ⟨_, _, _, _, _, _, _, _, _, rfl, _⟩ := h; rfl)
theorem hn_alike {K : PySem.W.Frag} : ∀ ds P, G_alike K ds P → ds.length = 3 := fun ds P h => by first | (obtain ⟨rfl, _⟩ := h; rfl) | (obtain ⟨_, rfl, _⟩ := h; rfl) | (obtain ⟨_, _, rfl, _⟩ := h; rfl) | (obtain ⟨_, _, _, rfl, _⟩ := h; rfl) | (obtain ⟨_, _, _, _, rfl, _⟩ := h; rfl) | (obtain ⟨_, _, _, _, _, rfl, _⟩ := h; rfl) | (obtain ⟨_, _, _, _, _, _, rfl, _⟩ := h; rfl) | (obtain ⟨_, _, _, _, _, _, _, rfl, _⟩ := h; rfl) | (obtain ⟨_, _, _, _, _, _, _, _, rfl, _⟩ := h; rfl) | (obtain ⟨_, _, _, _, _, _, _, _, _, rfl, _⟩ := h; rfl)
theorem hn_law_minds {K : PySem.W.Frag} : ∀ ds P, G_law_minds K ds P → ds.length = 1 := fun ds P h => by first | (obtain ⟨rfl, _⟩ := h; rfl) | (obtain ⟨_, rfl, _⟩ := h; rfl) | (obtain ⟨_, _, rfl, _⟩ := h; rfl) | (obtain ⟨_, _, _, rfl, _⟩ := h; rfl) | (obtain ⟨_, _, _, _, rfl, _⟩ := h; rfl) | (obtain ⟨_, _, _, _, _, rfl, _⟩ := h; rfl) | (obtain ⟨_, _, _, _, _, _, rfl, _⟩ := h; rfl) | (obtain ⟨_, _, _, _, _, _, _, rfl, _⟩ := h; rfl) | (obtain ⟨_, _, _, _, _, _, _, _, rfl, _⟩ := h; rfl) | (obtain ⟨_, _, _, _, _, _, _, _, _, rfl, _⟩ := h; rfl)
theorem hn_law_mind {K : PySem.W.Frag} : ∀ ds P, G_law_mind K ds P → ds.length = 3 := fun ds P h => by first | (obtain ⟨rfl, _⟩ := h; rfl) | (obtain ⟨_, rfl, _⟩ := h; rfl) | (obtain ⟨_, _, rfl, _⟩ := h; rfl) | (obtain ⟨_, _, _, rfl, _⟩ := h; rfl) | (obtain ⟨_, _, _, _, rfl, _⟩ := h; rfl) | (obtain ⟨_, _, _, _, _, rfl, _⟩ := h; rfl) | (obtain ⟨_, _, _, _, _, _, rfl, _⟩ := h; rfl) | (obtain ⟨_, _, _, _, _, _, _, rfl, _⟩ := h; rfl) | (obtain ⟨_, _, _, _, _, _, _, _, rfl, _⟩ := h; rfl) | (obtain ⟨_, _, _, _, _, _, _, _, _, rfl, _⟩ := h; rfl)
theorem hn_law_row {K : PySem.W.Frag} : ∀ ds P, G_law_row K ds P → ds.length = 3 := fun ds P h => by first | (obtain ⟨rfl, _⟩ := h; rfl) | (obtain ⟨_, rfl, _⟩ := h; rfl) | (obtain ⟨_, _, rfl, _⟩ := h; rfl) | (obtain ⟨_, _, _, rfl, _⟩ := h; rfl) | (obtain ⟨_, _, _, _, rfl, _⟩ := h; rfl) | (obtain ⟨_, _, _, _, _, rfl, _⟩ := h; rfl) | (obtain ⟨_, _, _, _, _, _, rfl, _⟩ := h; rfl) | (obtain ⟨_, _, _, _, _, _, _, rfl, _⟩ := h; rfl) | (obtain ⟨_, _, _, _, _, _, _, _, rfl, _⟩ := h; rfl) | (obtain ⟨_, _, _, _, _, _, _, _, _, rfl, _⟩ := h; rfl)
theorem hn_law_jostled {K : PySem.W.Frag} : ∀ ds P, G_law_jostled K ds P → ds.length = 3 := fun ds P h => by first | (obtain ⟨rfl, _⟩ := h; rfl) | (obtain ⟨_, rfl, _⟩ := h; rfl) | (obtain ⟨_, _, rfl, _⟩ := h; rfl) | (obtain ⟨_, _, _, rfl, _⟩ := h; rfl) | (obtain ⟨_, _, _, _, rfl, _⟩ := h; rfl) | (obtain ⟨_, _, _, _, _, rfl, _⟩ := h; rfl) | (obtain ⟨_, _, _, _, _, _, rfl, _⟩ := h; rfl) | (obtain ⟨_, _, _, _, _, _, _, rfl, _⟩ := h; rfl) | (obtain ⟨_, _, _, _, _, _, _, _, rfl, _⟩ := h; rfl) | (obtain ⟨_, _, _, _, _, _, _, _, _, rfl, _⟩ := h; rfl)
theorem hn_law_crossed {K : PySem.W.Frag} : ∀ ds P, G_law_crossed K ds P → ds.length = 3 := fun ds P h => by first | (obtain ⟨rfl, _⟩ := h; rfl) | (obtain ⟨_, rfl, _⟩ := h; rfl) | (obtain ⟨_, _, rfl, _⟩ := h; rfl) | (obtain ⟨_, _, _, rfl, _⟩ := h; rfl) | (obtain ⟨_, _, _, _, rfl, _⟩ := h; rfl) | (obtain ⟨_, _, _, _, _, rfl, _⟩ := h; rfl) | (obtain ⟨_, _, _, _, _, _, rfl, _⟩ := h; rfl) | (obtain ⟨_, _, _, _, _, _, _, rfl, _⟩ := h; rfl) | (obtain ⟨_, _, _, _, _, _, _, _, rfl, _⟩ := h; rfl) | (obtain ⟨_, _, _, _, _, _, _, _, _, rfl, _⟩ := h; rfl)
theorem hn_law_part {K : PySem.W.Frag} : ∀ ds P, G_law_part K ds P → ds.length = 3 := fun ds P h => by first | (obtain ⟨rfl, _⟩ := h; rfl) | (obtain ⟨_, rfl, _⟩ := h; rfl) | (obtain ⟨_, _, rfl, _⟩ := h; rfl) | (obtain ⟨_, _, _, rfl, _⟩ := h; rfl) | (obtain ⟨_, _, _, _, rfl, _⟩ := h; rfl) | (obtain ⟨_, _, _, _, _, rfl, _⟩ := h; rfl) | (obtain ⟨_, _, _, _, _, _, rfl, _⟩ := h; rfl) | (obtain ⟨_, _, _, _, _, _, _, rfl, _⟩ := h; rfl) | (obtain ⟨_, _, _, _, _, _, _, _, rfl, _⟩ := h; rfl) | (obtain ⟨_, _, _, _, _, _, _, _, _, rfl, _⟩ := h; rfl)
theorem hn_law_couple {K : PySem.W.Frag} : ∀ ds P, G_law_couple K ds P → ds.length = 4 := fun ds P h => by first | (obtain ⟨rfl, _⟩ := h; rfl) | (obtain ⟨_, rfl, _⟩ := h; rfl) | (obtain ⟨_, _, rfl, _⟩ := h; rfl) | (obtain ⟨_, _, _, rfl, _⟩ := h; rfl) | (obtain ⟨_, _, _, _, rfl, _⟩ := h; rfl) | (obtain ⟨_, _, _, _, _, rfl, _⟩ := h; rfl) | (obtain ⟨_, _, _, _, _, _, rfl, _⟩ := h; rfl) | (obtain ⟨_, _, _, _, _, _, _, rfl, _⟩ := h; rfl) | (obtain ⟨_, _, _, _, _, _, _, _, rfl, _⟩ := h; rfl) | (obtain ⟨_, _, _, _, _, _, _, _, _, rfl, _⟩ := h; rfl)
theorem hn_law_is_row {K : PySem.W.Frag} : ∀ ds P, G_law_is_row K ds P → ds.length = 2 := fun ds P h => by first | (obtain ⟨rfl, _⟩ := h; rfl) | (obtain ⟨_, rfl, _⟩ := h; rfl) | (obtain ⟨_, _, rfl, _⟩ := h; rfl) | (obtain ⟨_, _, _, rfl, _⟩ := h; rfl) | (obtain ⟨_, _, _, _, rfl, _⟩ := h; rfl) | (obtain ⟨_, _, _, _, _, rfl, _⟩ := h; rfl) | (obtain ⟨_, _, _, _, _, _, rfl, _⟩ := h; rfl) | (obtain ⟨_, _, _, _, _, _, _, rfl, _⟩ := h; rfl) | (obtain ⟨_, _, _, _, _, _, _, _, rfl, _⟩ := h; rfl) | (obtain ⟨_, _, _, _, _, _, _, _, _, rfl, _⟩ := h; rfl)
theorem hn_law_same {K : PySem.W.Frag} : ∀ ds P, G_law_same K ds P → ds.length = 4 := fun ds P h => by first | (obtain ⟨rfl, _⟩ := h; rfl) | (obtain ⟨_, rfl, _⟩ := h; rfl) | (obtain ⟨_, _, rfl, _⟩ := h; rfl) | (obtain ⟨_, _, _, rfl, _⟩ := h; rfl) | (obtain ⟨_, _, _, _, rfl, _⟩ := h; rfl) | (obtain ⟨_, _, _, _, _, rfl, _⟩ := h; rfl) | (obtain ⟨_, _, _, _, _, _, rfl, _⟩ := h; rfl) | (obtain ⟨_, _, _, _, _, _, _, rfl, _⟩ := h; rfl) | (obtain ⟨_, _, _, _, _, _, _, _, rfl, _⟩ := h; rfl) | (obtain ⟨_, _, _, _, _, _, _, _, _, rfl, _⟩ := h; rfl)
theorem hn_law_due {K : PySem.W.Frag} : ∀ ds P, G_law_due K ds P → ds.length = 5 := fun ds P h => by first | (obtain ⟨rfl, _⟩ := h; rfl) | (obtain ⟨_, rfl, _⟩ := h; rfl) | (obtain ⟨_, _, rfl, _⟩ := h; rfl) | (obtain ⟨_, _, _, rfl, _⟩ := h; rfl) | (obtain ⟨_, _, _, _, rfl, _⟩ := h; rfl) | (obtain ⟨_, _, _, _, _, rfl, _⟩ := h; rfl) | (obtain ⟨_, _, _, _, _, _, rfl, _⟩ := h; rfl) | (obtain ⟨_, _, _, _, _, _, _, rfl, _⟩ := h; rfl) | (obtain ⟨_, _, _, _, _, _, _, _, rfl, _⟩ := h; rfl) | (obtain ⟨_, _, _, _, _, _, _, _, _, rfl, _⟩ := h; rfl)
theorem hn_law_right {K : PySem.W.Frag} : ∀ ds P, G_law_right K ds P → ds.length = 5 := fun ds P h => by first | (obtain ⟨rfl, _⟩ := h; rfl) | (obtain ⟨_, rfl, _⟩ := h; rfl) | (obtain ⟨_, _, rfl, _⟩ := h; rfl) | (obtain ⟨_, _, _, rfl, _⟩ := h; rfl) | (obtain ⟨_, _, _, _, rfl, _⟩ := h; rfl) | (obtain ⟨_, _, _, _, _, rfl, _⟩ := h; rfl) | (obtain ⟨_, _, _, _, _, _, rfl, _⟩ := h; rfl) | (obtain ⟨_, _, _, _, _, _, _, rfl, _⟩ := h; rfl) | (obtain ⟨_, _, _, _, _, _, _, _, rfl, _⟩ := h; rfl) | (obtain ⟨_, _, _, _, _, _, _, _, _, rfl, _⟩ := h; rfl)
/-- what the walk asks of the text's names -/
structure Tx (K : PySem.W.Frag) (mg : Str → Option Value) : Prop where
  b_all : mg "all" = none
  b_any : mg "any" = none
  b_bool : mg "bool" = none
  b_enumerate : mg "enumerate" = none
  b_int : mg "int" = none
  b_isinstance : mg "isinstance" = none
  b_len : mg "len" = none
  b_list : mg "list" = none
  b_max : mg "max" = none
  b_min : mg "min" = none
  b_range : mg "range" = none
  b_reversed : mg "reversed" = none
  b_set : mg "set" = none
  b_sorted : mg "sorted" = none
  b_sum : mg "sum" = none
  b_tuple : mg "tuple" = none
  c_Answer : mg "Answer" = some (.ref (He.ga K "Answer"))
  c_Both : mg "Both" = some (.ref (He.ga K "Both"))
  c_Held : mg "Held" = some (.ref (He.ga K "Held"))
  c_Minds : mg "Minds" = some (.ref (He.ga K "Minds"))
  k_Minds : Cls K (He.ga K "Minds")
  c_Odds : mg "Odds" = some (.ref (He.ga K "Odds"))
  c_Rest : mg "Rest" = some (.ref (He.ga K "Rest"))
  c_Rounds : mg "Rounds" = some (.ref (He.ga K "Rounds"))
  c_Same : mg "Same" = some (.ref (He.ga K "Same"))
  k_Same : Cls K (He.ga K "Same")
  c_Shared : mg "Shared" = some (.ref (He.ga K "Shared"))
  c_Unlike : mg "Unlike" = some (.ref (He.ga K "Unlike"))
  k_Unlike : Cls K (He.ga K "Unlike")
  f_Minds_kinds : FldOk K (He.ga K "Minds") "kinds"
  f_Minds_kept : FldOk K (He.ga K "Minds") "kept"
  f_Minds_table : FldOk K (He.ga K "Minds") "table"
  ans : AnsOk K
theorem Tx.M {K : PySem.W.Frag} {mg : Str → Option Value} (t : Tx K mg) : MindsOk K := ⟨t.f_Minds_kinds, t.f_Minds_kept, t.f_Minds_table⟩
section
variable {P : Program} {w : World} {K : PySem.W.Frag} {mg : Str → Option Value} {base : Heap} {f : Addr} {fd : FuncData}
set_option maxHeartbeats 4000000 in
theorem ok_is_number (t : Tx K mg) (F : FunD K "is_number" "is_number" (defArgs s_is_number) (defBody s_is_number) (defScope s_is_number) [] [] f fd) : FnOk P w K mg base CX0 1 f fd ["thing"] (spD K 1 (G_is_number K)) :=
  fn_ok (T := T_is_number K) F sc_is_number rfl (fun cdv A outer s H B He hr => (sd_one (sd_ret (pd_and (pd_isi t.b_isinstance (pe_typ t.b_int boot_int) (.ty _) (pd_var (pv 0))) (pd_one (pd_not (pd_isi t.b_isinstance (pe_typ t.b_bool boot_bool) (.ty _) (pd_var (pv 0))))))))) rd_is_number
set_option maxHeartbeats 4000000 in
theorem ok_is_pair (t : Tx K mg) (d_is_number : Def P w K mg base "is_number" 1 1 (G_is_number K)) (F : FunD K "is_pair" "is_pair" (defArgs s_is_pair) (defBody s_is_pair) (defScope s_is_pair) [] [] f fd) : FnOk P w K mg base CX0 2 f fd ["thing", "kinds"] (spD K 2 (G_is_pair K)) :=
  fn_ok (T := T_is_pair K) F sc_is_pair rfl (fun cdv A outer s H B He hr => (sd_cons (sd_if (PWd.t (pw_o (pt_n (pt_e (pd_isi t.b_isinstance (pe_typ t.b_tuple boot_tuple) (.ty _) (pd_var (pv 0))))) (pw_o (pt_cmp1 (op_neD (hu64 hr)) od_ne (pd_fn (call_len_seq) cd_len t.b_len PySem.boot_len (pa_c (pd_var (pv 0)) pa_0)) pd_int) (pw_o (pt_n (pt_e (pd_def d_is_number hn_is_number (hr.mono (by decide)) (pa_c (pd_ix (pd_var (pv 0)) pd_int) pa_0)))) (pw_o1 (pt_n (pt_e (pd_def d_is_number hn_is_number (hr.mono (by decide)) (pa_c (pd_ix (pd_var (pv 0)) pd_int) pa_0))))))))) (sd_one (sd_ret pd_bl)) sd_nil)
  (sd_one (sd_ret (pd_ch3 op_le op_lt op_lt od_le od_lt od_lt pd_int (pd_ix (pd_var (pv 0)) pd_int) (pd_ix (pd_var (pv 0)) pd_int) (pd_var (pv 1))))))) rd_is_pair
theorem ok_Minds_init (t : Tx K mg) (d_is_number : Def P w K mg base "is_number" 1 1 (G_is_number K)) (d_is_pair : Def P w K mg base "is_pair" 2 2 (G_is_pair K)) (F : FunD K "__init__" "Minds.__init__" (defArgs s_Minds_init) (defBody s_Minds_init) (defScope s_Minds_init) [] [] f fd) : FnOk P w K mg base CX0 3 f fd ["self", "kinds", "pairs"] (spI K (He.ga K "Minds") 2 (G_Minds_init K)) := by
  refine fn_ini F sc_Minds_init rfl fun cdv A outer s H0 H B x ds R D' σ hr hG hI hk => ?_
  obtain ⟨n, ps, rfl, hn, hp, hR⟩ := hG
  show tAny (Cxd P w K mg base N_Minds_init "Minds.__init__" (defScope s_Minds_init) f cdv A outer s H) (defBody s_Minds_init) D' σ H
  refine any_if (T := T_Minds_init_0 K) (PWd.t (pw_o (pt_n (pt_e (pd_def d_is_number hn_is_number (hr.mono (by decide)) (pa_c (pd_var (pv 1)) pa_0)))) (pw_o (pt_cmp1 op_lt od_lt (pd_var (pv 1)) pd_int) (pw_o1 (pt_n (pt_e (pd_isi t.b_isinstance (pe_typ t.b_list boot_list) (.ty _) (pd_var (pv 2))))))))) hI (rd_Minds_init_0 hn) fun G1 hI => ?_
  refine any_if (T := T_Minds_init_1 K) (by exact (PWd.t (pw_o (pt_n (pt_e (pd_fn (cr_all rfl) cd_all t.b_all boot_all (pa_c (by exact (pd_lc rfl sc_Minds_init.nd (pi_l (pd_var (pv 2))) (blkOk_by (own := [("pair", 3)]) (N := N_Minds_init) (sc := defScope s_Minds_init) (by decide +kernel)) (fun _ _ _ _ _ => pg_name sc_Minds_init.nd rfl (Or.inl rfl)) (fun _ _ _ _ _ => ptn) (fun _ _ _ _ _ => (pd_fz (pd_def d_is_pair hn_is_pair (hr.mono (by decide)) (pa_c (pd_var (pv 3)) (pa_c (pd_var (pv 1)) pa_0))))))) pa_0)))) (pw_o1 (pt_cmp1 op_lt od_lt (pd_lset rfl (hu64 hr) t.b_len t.b_set (pd_var (pv 2))) (pd_fn (call_len_seq) cd_len t.b_len PySem.boot_len (pa_c (pd_var (pv 2)) pa_0))))))) hI (rd_Minds_init_1 hp) fun G2 hI => ?_
  refine any_fld (T := T_Minds_init_2 K) (pd_var (pv 1)) (pv 0) hI t.f_Minds_kinds rd_Minds_init_2 rfl (Nat.le_of_ble_eq_true rfl) fun d G3 G4 hd hI => ?_
  subst hd
  refine any_fld (T := T_Minds_init_3 K) (pd_ty (call_list_of) cd_list t.b_list boot_list (pa_c (pd_var (pv 2)) pa_0)) (pv 0) hI t.f_Minds_kept rd_Minds_init_3 rfl (Nat.le_of_ble_eq_true rfl) fun d G5 G6 hd hI => ?_
  subst hd
  refine any_table (Ti := T_Minds_init_5 K) (j := 3) rfl (hu1 hr) (pi_l (pd_var (pv 2))) (pg_name sc_Minds_init.nd rfl (.inl rfl)) (pv 0) (pv 0) (pv 3) pe_bl hI t.f_Minds_table rd_Minds_init_5 rfl (Nat.le_of_ble_eq_true rfl) hp.1 hp.2.1 rfl (by decide) (Nat.le_of_ble_eq_true rfl) fun G7 G8 σ' hI => ?_
  exact any_nil (hk _ _ _ _ hR hI)
set_option maxHeartbeats 4000000 in
theorem ok_Minds_minding (t : Tx K mg) (F : FunD K "minding" "Minds.minding" (defArgs s_Minds_minding) (defBody s_Minds_minding) (defScope s_Minds_minding) [] [] f fd) : FnOk P w K mg base CX0 1 f fd ["self", "one", "other"] (spD K 3 (G_Minds_minding K)) :=
  fn_ok (T := T_Minds_minding K) F sc_Minds_minding rfl (fun cdv A outer s H B He hr => (sd_one (sd_ret (pd_or (pd_cmp (op_eqD (hu64 hr)) od_eq (pd_var (pv 1)) (pd_var (pv 2))) (pd_one (pd_inD (hu1 hr) (pd_tup (pa_c (pd_fz (pd_fn (call_min2 rfl) cd_min2 t.b_min boot_min (pa_c (pd_var (pv 1)) (pa_c (pd_var (pv 2)) pa_0)))) (pa_c (pd_fz (pd_fn (call_max2 rfl) cd_max2 t.b_max boot_max (pa_c (pd_var (pv 1)) (pa_c (pd_var (pv 2)) pa_0)))) pa_0))) (pd_fld (pd_var (pv 0))))))))) (rd_Minds_minding t.M)
set_option maxHeartbeats 4000000 in
theorem ok_Minds_is_kind (t : Tx K mg) (d_is_number : Def P w K mg base "is_number" 1 1 (G_is_number K)) (F : FunD K "is_kind" "Minds.is_kind" (defArgs s_Minds_is_kind) (defBody s_Minds_is_kind) (defScope s_Minds_is_kind) [] [] f fd) : FnOk P w K mg base CX0 2 f fd ["self", "thing"] (spD K 2 (G_Minds_is_kind K)) :=
  fn_ok (T := T_Minds_is_kind K) F sc_Minds_is_kind rfl (fun cdv A outer s H B He hr => (sd_one (sd_ret (pd_and (pd_def d_is_number hn_is_number (hr.mono (by decide)) (pa_c (pd_var (pv 1)) pa_0)) (pd_one (pd_chain op_le op_lt od_le od_lt pd_int (pd_var (pv 1)) (pd_fld (pd_var (pv 0))))))))) (rd_Minds_is_kind t.M)
set_option maxHeartbeats 4000000 in
theorem ok_check_row (t : Tx K mg) (d_Minds_is_kind : MDef P w K mg base (He.ga K "Minds") "is_kind" 2 2 (G_Minds_is_kind K)) (F : FunD K "check_row" "check_row" (defArgs s_check_row) (defBody s_check_row) (defScope s_check_row) [] [] f fd) : FnOk P w K mg base CX0 3 f fd ["minds", "row"] (spD K 2 (G_check_row K)) :=
  fn_ok (T := T_check_row K) F sc_check_row rfl (fun cdv A outer s H B He hr => (sd_one (sd_if (PWd.t (pw_o (pt_n (pt_e (pd_isi t.b_isinstance (pe_typ t.b_list boot_list) (.ty _) (pd_var (pv 1))))) (pw_o1 (pt_n (pt_e (pd_fn (cr_all rfl) cd_all t.b_all boot_all (pa_c (by exact (pd_lc rfl sc_check_row.nd (pi_l (pd_var (pv 1))) (blkOk_by (own := [("kind", 2)]) (N := N_check_row) (sc := defScope s_check_row) (by decide +kernel)) (fun _ _ _ _ _ => pg_name sc_check_row.nd rfl (Or.inl rfl)) (fun _ _ _ _ _ => ptn) (fun _ _ _ _ _ => (pd_fz (pd_mdef t.k_Minds d_Minds_is_kind hn_Minds_is_kind (hr.mono (by decide)) (pd_var (pv 0)) (pa_c (pd_var (pv 2)) pa_0)))))) pa_0))))))) (sd_one sd_nev) sd_nil))) rd_check_row
set_option maxHeartbeats 4000000 in
theorem ok_part_of (t : Tx K mg) (F : FunD K "part_of" "part_of" (defArgs s_part_of) (defBody s_part_of) (defScope s_part_of) [] [] f fd) : FnOk P w K mg base CX0 1 f fd ["row", "one", "other"] (spD K 3 (G_part_of K)) :=
  fn_ok (T := T_part_of K) F sc_part_of rfl (fun cdv A outer s H B He hr => (sd_one (sd_ret (by exact (pd_lc rfl sc_part_of.nd (pi_l (pd_var (pv 0))) (blkOk_by (own := [("kind", 3)]) (N := N_part_of) (sc := defScope s_part_of) (by decide +kernel)) (fun _ _ _ _ _ => pg_name sc_part_of.nd rfl (Or.inl rfl)) (fun _ _ _ _ _ => (pto (pt_cmp1 op_in_seq od_inT (pd_var (pv 3)) (pd_tup (pa_c (pd_var (pv 1)) (pa_c (pd_var (pv 2)) pa_0)))))) (fun _ _ _ _ _ => (pd_var (pv 3)))))))) rd_part_of
set_option maxHeartbeats 4000000 in
theorem ok_place_first (t : Tx K mg) (d_Minds_minding : MDef P w K mg base (He.ga K "Minds") "minding" 1 3 (G_Minds_minding K)) (F : FunD K "place_first" "place_first" (defArgs s_place_first) (defBody s_place_first) (defScope s_place_first) [] [] f fd) : FnOk P w K mg base CX0 2 f fd ["minds", "row", "kind"] (spD K 3 (G_place_first K)) :=
  fn_ok (T := T_place_first K) F sc_place_first rfl (fun cdv A outer s H B He hr => (sd_cons (sd_for rfl (pi_e t.b_enumerate (pa_c (pd_var (pv 1)) pa_0)) (pg_t (is := [3, 4]) (pg_tup rfl (pgs_cons (pg_name (i := 3) sc_place_first.nd rfl (.inl rfl)) (pgs_cons (pg_name (i := 4) sc_place_first.nd rfl (.inl rfl)) pgs_nil)))) (sd_cons (sd_if (pt_cmp1 (op_eqD (hu64 hr)) od_eq (pd_var (pv 4)) (pd_var (pv 2))) (sd_one (sd_ret (pd_var (pv 3)))) sd_nil)
  (sd_one (sd_if (pt_e (pd_mdef t.k_Minds d_Minds_minding hn_Minds_minding (hr.mono (by decide)) (pd_var (pv 0)) (pa_c (pd_var (pv 4)) (pa_c (pd_var (pv 2)) pa_0)))) (sd_one (sd_ret (pd_ng pd_int))) sd_nil))))
  (sd_one (sd_ret (pd_ng pd_int))))) rd_place_first
set_option maxHeartbeats 4000000 in
theorem ok_without (t : Tx K mg) (F : FunD K "without" "without" (defArgs s_without) (defBody s_without) (defScope s_without) [] [] f fd) : FnOk P w K mg base CX0 1 f fd ["row", "place"] (spD K 2 (G_without K)) :=
  fn_ok (T := T_without K) F sc_without rfl (fun cdv A outer s H B He hr => (sd_one (sd_ret (pd_add (pd_sl (pd_var (pv 0)) po_0 (po_1 (pd_var (pv 1)))) (pd_sl (pd_var (pv 0)) (po_1 (pd_add (pd_var (pv 1)) pd_int)) po_0))))) rd_without
set_option maxHeartbeats 4000000 in
theorem ok_led (t : Tx K mg) (d_place_first : Def P w K mg base "place_first" 2 3 (G_place_first K)) (d_without : Def P w K mg base "without" 1 2 (G_without K)) (F : FunD K "led" "led" (defArgs s_led) (defBody s_led) (defScope s_led) [] [] f fd) : FnOk P w K mg base CX0 3 f fd ["minds", "one", "other"] (spD K 3 (G_led K)) :=
  fn_ok (T := T_led K) F sc_led rfl (fun cdv A outer s H B He hr => (sd_cons (sd_if (pt_cmp1 (op_neD (hu64 hr)) od_ne (pd_fn (call_len_seq) cd_len t.b_len PySem.boot_len (pa_c (pd_var (pv 1)) pa_0)) (pd_fn (call_len_seq) cd_len t.b_len PySem.boot_len (pa_c (pd_var (pv 2)) pa_0))) (sd_one (sd_ret pd_non)) sd_nil)
  (sd_cons (sd_set (i := 3) sc_led.nd (pd_lst pa_0))
  (sd_cons (sd_set (i := 4) sc_led.nd (pd_fz (pd_ty (call_list_of) cd_list t.b_list boot_list (pa_c (pd_var (pv 1)) pa_0))))
  (sd_cons (sd_for rfl (pi_e t.b_enumerate (pa_c (pd_var (pv 2)) pa_0)) (pg_t (is := [5, 6]) (pg_tup rfl (pgs_cons (pg_name (i := 5) sc_led.nd rfl (.inl rfl)) (pgs_cons (pg_name (i := 6) sc_led.nd rfl (.inl rfl)) pgs_nil)))) (sd_cons (sd_set (i := 7) sc_led.nd (pd_fz (pd_def d_place_first hn_place_first (hr.mono (by decide)) (pa_c (pd_var (pv 0)) (pa_c (pd_fz (pd_sl (pd_var (pv 4)) (po_1 (pd_var (pv 5))) po_0)) (pa_c (pd_var (pv 6)) pa_0))))))
  (sd_cons (sd_if (pt_cmp1 op_lt od_lt (pd_var (pv 7)) pd_int) (sd_one (sd_ret pd_non)) sd_nil)
  (sd_cons (sd_set (i := 4) sc_led.nd (pd_fz (pd_add (pd_add (pd_sl (pd_var (pv 4)) po_0 (po_1 (pd_var (pv 5)))) (pd_lst (pa_c (pd_var (pv 6)) pa_0))) (pd_def d_without hn_without (hr.mono (by decide)) (pa_c (pd_fz (pd_sl (pd_var (pv 4)) (po_1 (pd_var (pv 5))) po_0)) (pa_c (pd_var (pv 7)) pa_0))))))
  (sd_one (sd_ext (pv 3) (pd_lrv2 rfl t.b_list t.b_reversed t.b_range (pd_var (pv 5)) (pd_add (pd_var (pv 5)) (pd_var (pv 7))))))))))
  (sd_one (sd_retM (pv 3)))))))) rd_led
set_option maxHeartbeats 4000000 in
theorem ok_couples (t : Tx K mg) (d_Minds_minding : MDef P w K mg base (He.ga K "Minds") "minding" 1 3 (G_Minds_minding K)) (F : FunD K "couples" "couples" (defArgs s_couples) (defBody s_couples) (defScope s_couples) [] [] f fd) : FnOk P w K mg base CX0 2 f fd ["minds", "one", "other"] (spD K 3 (G_couples K)) :=
  fn_ok (T := T_couples K) F sc_couples rfl (fun cdv A outer s H B He hr => (sd_cons (sd_set (i := 3) sc_couples.nd (pd_fz (pd_sset rfl t.b_sorted t.b_set (pd_add (pd_var (pv 1)) (pd_var (pv 2))))))
  (sd_cons (by exact (sd_setLc rfl sc_couples.nd (i := 4) (pi_l (pd_var (pv 3))) (blkOk_by (own := [("kind", 5)]) (N := N_couples) (sc := defScope s_couples) (by decide +kernel)) (fun _ _ _ _ _ => pg_name sc_couples.nd rfl (Or.inl rfl)) (fun _ _ _ _ _ => ptn) (fun _ _ _ _ _ => (pd_tup (pa_c (pd_var (pv 5)) (pa_c (pd_var (pv 5)) pa_0)))) (sw_true rfl rfl rfl (by decide +kernel))))
  (sd_cons (sd_for rfl (pi_l (pd_var (pv 3))) (pg_n sc_couples.nd (i := 5)) (sd_one (sd_ext (pv 4) (by exact (pd_lc rfl sc_couples.nd (pi_l (pd_var (pv 3))) (blkOk_by (own := [("more", 6)]) (N := N_couples) (sc := defScope s_couples) (by decide +kernel)) (fun _ _ _ _ _ => pg_name sc_couples.nd rfl (Or.inl rfl)) (fun _ _ _ _ _ => (pto (PWd.t (pw_a (pt_cmp1 op_lt od_lt (pd_var (pv 5)) (pd_var (pv 6))) (pw_a1 (pt_e (pd_mdef t.k_Minds d_Minds_minding hn_Minds_minding (hr.mono (by decide)) (pd_var (pv 0)) (pa_c (pd_var (pv 5)) (pa_c (pd_var (pv 6)) pa_0))))))))) (fun _ _ _ _ _ => (pd_tup (pa_c (pd_var (pv 5)) (pa_c (pd_var (pv 6)) pa_0)))))))))
  (sd_one (sd_retM (pv 4))))))) rd_couples
set_option maxHeartbeats 4000000 in
theorem ok_unlike (t : Tx K mg) (d_part_of : Def P w K mg base "part_of" 1 3 (G_part_of K)) (d_couples : Def P w K mg base "couples" 2 3 (G_couples K)) (F : FunD K "unlike" "unlike" (defArgs s_unlike) (defBody s_unlike) (defScope s_unlike) [] [] f fd) : FnOk P w K mg base CX0 3 f fd ["minds", "one", "other"] (spD K 3 (G_unlike K)) :=
  fn_ok (T := T_unlike K) F sc_unlike rfl (fun cdv A outer s H B He hr => (sd_cons (sd_for rfl (pi_l (pd_fz (pd_def d_couples hn_couples (hr.mono (by decide)) (pa_c (pd_var (pv 0)) (pa_c (pd_var (pv 1)) (pa_c (pd_var (pv 2)) pa_0)))))) (pg_t (is := [3, 4]) (pg_tup rfl (pgs_cons (pg_name (i := 3) sc_unlike.nd rfl (.inl rfl)) (pgs_cons (pg_name (i := 4) sc_unlike.nd rfl (.inl rfl)) pgs_nil)))) (sd_one (sd_if (pt_cmp1 (op_neD (hu64 hr)) od_ne (pd_def d_part_of hn_part_of (hr.mono (by decide)) (pa_c (pd_var (pv 1)) (pa_c (pd_var (pv 3)) (pa_c (pd_var (pv 4)) pa_0)))) (pd_def d_part_of hn_part_of (hr.mono (by decide)) (pa_c (pd_var (pv 2)) (pa_c (pd_var (pv 3)) (pa_c (pd_var (pv 4)) pa_0))))) (sd_one (sd_ret (pd_tup (pa_c (pd_var (pv 3)) (pa_c (pd_var (pv 4)) pa_0))))) sd_nil)))
  (sd_one (sd_ret pd_non)))) rd_unlike
set_option maxHeartbeats 4000000 in
theorem ok_are_kinds (t : Tx K mg) (d_Minds_is_kind : MDef P w K mg base (He.ga K "Minds") "is_kind" 2 2 (G_Minds_is_kind K)) (F : FunD K "are_kinds" "are_kinds" (defArgs s_are_kinds) (defBody s_are_kinds) (defScope s_are_kinds) [] [] f fd) : FnOk P w K mg base CX0 3 f fd ["minds", "kinds"] (spD K 2 (G_are_kinds K)) :=
  fn_ok (T := T_are_kinds K) F sc_are_kinds rfl (fun cdv A outer s H B He hr => (sd_one (sd_ret (pd_fn (cr_all rfl) cd_all t.b_all boot_all (pa_c (by exact (pd_lc rfl sc_are_kinds.nd (pi_l (pd_var (pv 1))) (blkOk_by (own := [("kind", 2)]) (N := N_are_kinds) (sc := defScope s_are_kinds) (by decide +kernel)) (fun _ _ _ _ _ => pg_name sc_are_kinds.nd rfl (Or.inl rfl)) (fun _ _ _ _ _ => ptn) (fun _ _ _ _ _ => (pd_fz (pd_mdef t.k_Minds d_Minds_is_kind hn_Minds_is_kind (hr.mono (by decide)) (pd_var (pv 0)) (pa_c (pd_var (pv 2)) pa_0)))))) pa_0))))) rd_are_kinds
theorem ok_Same_init (t : Tx K mg) (F : FunD K "__init__" "Same.__init__" (defArgs s_Same_init) (defBody s_Same_init) (defScope s_Same_init) [] [] f fd) : FnOk P w K mg base CX0 1 f fd ["self", "places"] (spI K (He.ga K "Same") 1 (G_Same_init K)) := by
  refine fn_ini F sc_Same_init rfl fun cdv A outer s H0 H B x ds R D' σ hr hG hI hk => ?_
  obtain ⟨pl, rfl, hR⟩ := hG
  show tAny (Cxd P w K mg base N_Same_init "Same.__init__" (defScope s_Same_init) f cdv A outer s H) (defBody s_Same_init) D' σ H
  refine any_fld (T := T_Same_init_0 K) (by exact (pd_ty (call_list_of) cd_list t.b_list boot_list (pa_c (pd_var (pv 1)) pa_0))) (pv 0) hI t.ans.fld rd_Same_init_0 rfl (Nat.le_of_ble_eq_true rfl) fun d G1 G2 hd hI => ?_
  subst hd
  exact any_nil (hk _ _ _ _ hR hI)
set_option maxHeartbeats 4000000 in
theorem ok_Same_shows (t : Tx K mg) (d_Minds_minding : MDef P w K mg base (He.ga K "Minds") "minding" 1 3 (G_Minds_minding K)) (F : FunD K "shows" "Same.shows" (defArgs s_Same_shows) (defBody s_Same_shows) (defScope s_Same_shows) [] [] f fd) : FnOk P w K mg base CX0 2 f fd ["self", "minds", "row", "another"] (spD K 4 (G_Same_shows K)) :=
  fn_ok (T := T_Same_shows K) F sc_Same_shows rfl (fun cdv A outer s H B He hr => (sd_cons (sd_set (i := 4) sc_Same_shows.nd (pd_fz (pd_ty (call_list_of) cd_list t.b_list boot_list (pa_c (pd_var (pv 2)) pa_0))))
  (sd_cons (sd_for rfl (pi_l (pd_fld (pd_var (pv 0)))) (pg_n sc_Same_shows.nd (i := 5)) (sd_cons (sd_if (PWd.t (pw_o (pt_n (pt_chain1 op_le op_lt od_le od_lt pd_int (pd_var (pv 5)) (pd_sub (pd_fn (call_len_seq) cd_len t.b_len PySem.boot_len (pa_c (pd_var (pv 4)) pa_0)) pd_int))) (pw_o1 (pt_e (pd_mdef t.k_Minds d_Minds_minding hn_Minds_minding (hr.mono (by decide)) (pd_var (pv 1)) (pa_c (pd_ix (pd_var (pv 4)) (pd_var (pv 5))) (pa_c (pd_ix (pd_var (pv 4)) (pd_add (pd_var (pv 5)) pd_int)) pa_0))))))) (sd_one (sd_ret pd_bl)) sd_nil)
  (sd_one (sd_set (i := 4) sc_Same_shows.nd (pd_fz (pd_add (pd_add (pd_sl (pd_var (pv 4)) po_0 (po_1 (pd_var (pv 5)))) (pd_lst (pa_c (pd_ix (pd_var (pv 4)) (pd_add (pd_var (pv 5)) pd_int)) (pa_c (pd_ix (pd_var (pv 4)) (pd_var (pv 5))) pa_0)))) (pd_sl (pd_var (pv 4)) (po_1 (pd_add (pd_var (pv 5)) pd_int)) po_0)))))))
  (sd_one (sd_ret (pd_cmp (op_eqD (hu64 hr)) od_eq (pd_var (pv 4)) (pd_var (pv 3)))))))) (rd_Same_shows t.ans)
set_option maxHeartbeats 4000000 in
theorem ok_parts (t : Tx K mg) (d_Minds_minding : MDef P w K mg base (He.ga K "Minds") "minding" 1 3 (G_Minds_minding K)) (d_part_of : Def P w K mg base "part_of" 1 3 (G_part_of K)) (d_are_kinds : Def P w K mg base "are_kinds" 3 2 (G_are_kinds K)) (F : FunD K "parts" "parts" (defArgs s_parts) (defBody s_parts) (defScope s_parts) [] [] f fd) : FnOk P w K mg base CX0 4 f fd ["minds", "one", "other", "row", "another"] (spD K 5 (G_parts K)) :=
  fn_ok (T := T_parts K) F sc_parts rfl (fun cdv A outer s H B He hr => (sd_cons (sd_if (PWd.t (pw_o (pt_n (pt_e (pd_def d_are_kinds hn_are_kinds (hr.mono (by decide)) (pa_c (pd_var (pv 0)) (pa_c (pd_fz (pd_lst (pa_c (pd_var (pv 1)) (pa_c (pd_var (pv 2)) pa_0)))) pa_0))))) (pw_o (pt_cmp1 op_gt od_gt (pd_var (pv 1)) (pd_var (pv 2))) (pw_o1 (pt_n (pt_e (pd_mdef t.k_Minds d_Minds_minding hn_Minds_minding (hr.mono (by decide)) (pd_var (pv 0)) (pa_c (pd_var (pv 1)) (pa_c (pd_var (pv 2)) pa_0))))))))) (sd_one (sd_ret pd_non)) sd_nil)
  (sd_one (sd_ret (pd_tup (pa_c (pd_fz (pd_def d_part_of hn_part_of (hr.mono (by decide)) (pa_c (pd_var (pv 3)) (pa_c (pd_var (pv 1)) (pa_c (pd_var (pv 2)) pa_0))))) (pa_c (pd_fz (pd_def d_part_of hn_part_of (hr.mono (by decide)) (pa_c (pd_var (pv 4)) (pa_c (pd_var (pv 1)) (pa_c (pd_var (pv 2)) pa_0))))) pa_0))))))) rd_parts
theorem ok_Unlike_init (t : Tx K mg) (F : FunD K "__init__" "Unlike.__init__" (defArgs s_Unlike_init) (defBody s_Unlike_init) (defScope s_Unlike_init) [] [] f fd) : FnOk P w K mg base CX0 1 f fd ["self", "one", "other"] (spI K (He.ga K "Unlike") 2 (G_Unlike_init K)) := by
  refine fn_ini F sc_Unlike_init rfl fun cdv A outer s H0 H B x ds R D' σ hr hG hI hk => ?_
  obtain ⟨a, b, rfl, hR⟩ := hG
  show tAny (Cxd P w K mg base N_Unlike_init "Unlike.__init__" (defScope s_Unlike_init) f cdv A outer s H) (defBody s_Unlike_init) D' σ H
  refine any_fld (T := T_Unlike_init_0 K) (by exact (pd_var (pv 1))) (pv 0) hI t.ans.fld rd_Unlike_init_0 rfl (Nat.le_of_ble_eq_true rfl) fun d G1 G2 hd hI => ?_
  subst hd
  refine any_fld (T := T_Unlike_init_1 K) (by exact (pd_var (pv 2))) (pv 0) hI t.ans.fld rd_Unlike_init_1 rfl (Nat.le_of_ble_eq_true rfl) fun d G1 G2 hd hI => ?_
  subst hd
  exact any_nil (hk _ _ _ _ hR hI)
set_option maxHeartbeats 4000000 in
theorem ok_Unlike_shows (t : Tx K mg) (d_parts : Def P w K mg base "parts" 4 5 (G_parts K)) (F : FunD K "shows" "Unlike.shows" (defArgs s_Unlike_shows) (defBody s_Unlike_shows) (defScope s_Unlike_shows) [] [] f fd) : FnOk P w K mg base CX0 5 f fd ["self", "minds", "row", "another"] (spD K 4 (G_Unlike_shows K)) :=
  fn_ok (T := T_Unlike_shows K) F sc_Unlike_shows rfl (fun cdv A outer s H B He hr => (sd_cons (sd_set (i := 4) sc_Unlike_shows.nd (pd_fz (pd_def d_parts hn_parts (hr.mono (by decide)) (pa_c (pd_var (pv 1)) (pa_c (pd_fld (pd_var (pv 0))) (pa_c (pd_fld (pd_var (pv 0))) (pa_c (pd_var (pv 2)) (pa_c (pd_var (pv 3)) pa_0))))))))
  (sd_one (sd_ret (pd_and (pd_notNon (pd_var (pv 4))) (pd_one (pd_cmp (op_neD (hu64 hr)) od_ne (pd_ix (pd_var (pv 4)) pd_int) (pd_ix (pd_var (pv 4)) pd_int)))))))) (rd_Unlike_shows t.ans)
set_option maxHeartbeats 4000000 in
theorem ok_check_two (t : Tx K mg) (d_check_row : Def P w K mg base "check_row" 3 2 (G_check_row K)) (F : FunD K "check_two" "check_two" (defArgs s_check_two) (defBody s_check_two) (defScope s_check_two) [] [] f fd) : FnOk P w K mg base CX0 4 f fd ["minds", "one", "other"] (spD K 3 (G_check_two K)) :=
  fn_ok (T := T_check_two K) F sc_check_two rfl (fun cdv A outer s H B He hr => (sd_cons (sd_expr (pd_def d_check_row hn_check_row (hr.mono (by decide)) (pa_c (pd_var (pv 0)) (pa_c (pd_var (pv 1)) pa_0))))
  (sd_one (sd_expr (pd_def d_check_row hn_check_row (hr.mono (by decide)) (pa_c (pd_var (pv 0)) (pa_c (pd_var (pv 2)) pa_0))))))) rd_check_two
set_option maxHeartbeats 4000000 in
theorem ok_alike (t : Tx K mg) (d_led : Def P w K mg base "led" 3 3 (G_led K)) (d_unlike : Def P w K mg base "unlike" 3 3 (G_unlike K)) (d_Same_init : CDef P w K mg base (He.ga K "Same") "Same" 1 1 (G_Same_init K)) (d_Unlike_init : CDef P w K mg base (He.ga K "Unlike") "Unlike" 1 2 (G_Unlike_init K)) (d_check_two : Def P w K mg base "check_two" 4 3 (G_check_two K)) (F : FunD K "alike" "alike" (defArgs s_alike) (defBody s_alike) (defScope s_alike) [] [] f fd) : FnOk P w K mg base CX0 5 f fd ["minds", "one", "other"] (spD K 3 (G_alike K)) :=
  fn_ok (T := T_alike K) F sc_alike rfl (fun cdv A outer s H B He hr => (sd_cons (sd_expr (pd_def d_check_two hn_check_two (hr.mono (by decide)) (pa_c (pd_var (pv 0)) (pa_c (pd_var (pv 1)) (pa_c (pd_var (pv 2)) pa_0)))))
  (sd_cons (sd_set (i := 3) sc_alike.nd (pd_fz (pd_def d_led hn_led (hr.mono (by decide)) (pa_c (pd_var (pv 0)) (pa_c (pd_var (pv 1)) (pa_c (pd_var (pv 2)) pa_0))))))
  (sd_cons (sd_if (pt_notNon (pd_var (pv 3))) (sd_one (sd_ret (pd_cdef d_Same_init hn_Same_init (hr.mono (by decide)) (pa_c (pd_var (pv 3)) pa_0)))) sd_nil)
  (sd_cons (sd_setT (is := [4, 5]) (pg_tup rfl (pgs_cons (pg_name (i := 4) sc_alike.nd rfl (.inl rfl)) (pgs_cons (pg_name (i := 5) sc_alike.nd rfl (.inl rfl)) pgs_nil))) (pd_fz (pd_def d_unlike hn_unlike (hr.mono (by decide)) (pa_c (pd_var (pv 0)) (pa_c (pd_var (pv 1)) (pa_c (pd_var (pv 2)) pa_0))))))
  (sd_one (sd_ret (pd_cdef d_Unlike_init hn_Unlike_init (hr.mono (by decide)) (pa_c (pd_var (pv 4)) (pa_c (pd_var (pv 5)) pa_0)))))))))) rd_alike
set_option maxHeartbeats 4000000 in
theorem ok_law_minds (t : Tx K mg) (F : FunD K "_law_minds" "_law_minds" (defArgs s_law_minds) (defBody s_law_minds) (defScope s_law_minds) [] [] f fd) : FnOk P w K mg base CX0 1 f fd ["_law_script"] (spD K 1 (G_law_minds K)) :=
  fn_ok (T := T_law_minds K) F sc_law_minds rfl (fun cdv A outer s H B He hr => (sd_cons (sd_par3_of (fun t h => ps_par3 (i := 1) (j := 2) (l := 3) rfl sc_law_minds.nd rfl rfl rfl (by decide) (by decide) (by decide) rfl rfl rfl h (by rfl)) (pd_fz (pd_add pd_int (pd_mod (pd_fn (cr_sum rfl) cd_sum t.b_sum boot_sum (pa_c (pd_var (pv 0)) pa_0)) pd_int))) (pd_fz (pd_add (pd_fdiv (pd_fn (cr_sum rfl) cd_sum t.b_sum boot_sum (pa_c (pd_var (pv 0)) pa_0)) pd_int) (pd_fn (call_len_seq) cd_len t.b_len PySem.boot_len (pa_c (pd_var (pv 0)) pa_0)))) (pd_lst pa_0))
  (sd_cons (sd_if (pt_cmp1 (op_eqD (hu64 hr)) od_eq (pd_mod (pd_var (pv 2)) pd_int) pd_int) (sd_cons (sd_set (i := 1) sc_law_minds.nd (pd_fz (pd_add pd_int (pd_mod (pd_fdiv (pd_var (pv 2)) pd_int) (pd_add (pd_fn (call_len_seq) cd_len t.b_len PySem.boot_len (pa_c (pd_var (pv 0)) pa_0)) pd_int)))))
  (sd_cons (sd_for rfl (pi_l (pd_fz (pd_two (pd_var (pv 0))))) (pg_n sc_law_minds.nd (i := 4)) (sd_cons (sd_par2_of (fun t h => ps_par (i := 5) (j := 6) rfl sc_law_minds.nd rfl rfl (by decide) rfl rfl h (by rfl)) (pd_fz (pd_mod (pd_fdiv (pd_var (pv 4)) pd_int) (pd_var (pv 1)))) (pd_fz (pd_mod (pd_fdiv (pd_fdiv (pd_var (pv 4)) pd_int) (pd_var (pv 1))) (pd_var (pv 1)))))
  (sd_one (sd_app (pv 3) (pd_tup (pa_c (pd_fz (pd_fn (call_min2 rfl) cd_min2 t.b_min boot_min (pa_c (pd_var (pv 5)) (pa_c (pd_var (pv 6)) pa_0)))) (pa_c (pd_fz (pd_fn (call_max2 rfl) cd_max2 t.b_max boot_max (pa_c (pd_var (pv 5)) (pa_c (pd_var (pv 6)) pa_0)))) pa_0)))))))
  (sd_one (sd_ret (pd_tup (pa_c (pd_var (pv 1)) (pa_c (pd_fz (pd_ssetP rfl (hu64 hr) t.b_sorted t.b_set (by exact (pd_lc rfl sc_law_minds.nd (pi_l (pd_var (pv 3))) (blkOk_by (own := [("_law_pair", 7)]) (N := N_law_minds) (sc := defScope s_law_minds) (by decide +kernel)) (fun _ _ _ _ _ => pg_name sc_law_minds.nd rfl (Or.inl rfl)) (fun _ _ _ _ _ => (pto (pt_cmp1 op_lt od_lt (pd_ix (pd_var (pv 7)) pd_int) (pd_ix (pd_var (pv 7)) pd_int)))) (fun _ _ _ _ _ => (pd_var (pv 7))))))) pa_0))))))) sd_nil)
  (sd_cons (sd_for rfl (pi_r1 t.b_range (pa_c (pd_var (pv 1)) pa_0)) (pg_n sc_law_minds.nd (i := 5)) (sd_one (sd_for rfl (pi_r2 t.b_range (pa_c (pd_add (pd_var (pv 5)) pd_int) (pa_c (pd_var (pv 1)) pa_0))) (pg_n sc_law_minds.nd (i := 6)) (sd_cons (sd_if (pt_cmp1 op_lt od_lt (pd_mod (pd_var (pv 2)) pd_int) pd_int) (sd_one (sd_app (pv 3) (pd_tup (pa_c (pd_var (pv 5)) (pa_c (pd_var (pv 6)) pa_0))))) sd_nil)
  (sd_one (sd_set (i := 2) sc_law_minds.nd (pd_fz (pd_add (pd_fdiv (pd_var (pv 2)) pd_int) (pd_mul pd_int (pd_var (pv 6)))))))))))
  (sd_one (sd_ret (pd_tup (pa_c (pd_var (pv 1)) (pa_c (pd_var (pv 3)) pa_0))))))))) rd_law_minds
set_option maxHeartbeats 4000000 in
theorem ok_law_mind (t : Tx K mg) (F : FunD K "_law_mind" "_law_mind" (defArgs s_law_mind) (defBody s_law_mind) (defScope s_law_mind) [] [] f fd) : FnOk P w K mg base CX0 1 f fd ["_law_pairs", "_law_one", "_law_other"] (spD K 3 (G_law_mind K)) :=
  fn_ok (T := T_law_mind K) F sc_law_mind rfl (fun cdv A outer s H B He hr => (sd_one (sd_ret (pd_or (pd_cmp (op_eqD (hu64 hr)) od_eq (pd_var (pv 1)) (pd_var (pv 2))) (pd_one (pd_cmp (op_inD (hu65 hr)) od_in (pd_tup (pa_c (pd_fz (pd_fn (call_min2 rfl) cd_min2 t.b_min boot_min (pa_c (pd_var (pv 1)) (pa_c (pd_var (pv 2)) pa_0)))) (pa_c (pd_fz (pd_fn (call_max2 rfl) cd_max2 t.b_max boot_max (pa_c (pd_var (pv 1)) (pa_c (pd_var (pv 2)) pa_0)))) pa_0))) (pd_var (pv 0)))))))) rd_law_mind
set_option maxHeartbeats 4000000 in
theorem ok_law_row (t : Tx K mg) (F : FunD K "_law_row" "_law_row" (defArgs s_law_row) (defBody s_law_row) (defScope s_law_row) [] [] f fd) : FnOk P w K mg base CX0 1 f fd ["_law_script", "_law_kinds", "_law_by"] (spD K 3 (G_law_row K)) :=
  fn_ok (T := T_law_row K) F sc_law_row rfl (fun cdv A outer s H B He hr => (sd_one (sd_ret (by exact (pd_lc rfl sc_law_row.nd (pi_l (pd_var (pv 0))) (blkOk_by (own := [("_law_cell", 3)]) (N := N_law_row) (sc := defScope s_law_row) (by decide +kernel)) (fun _ _ _ _ _ => pg_name sc_law_row.nd rfl (Or.inl rfl)) (fun _ _ _ _ _ => ptn) (fun _ _ _ _ _ => (pd_fz (pd_mod (pd_fdiv (pd_var (pv 3)) (pd_var (pv 2))) (pd_var (pv 1)))))))))) rd_law_row
set_option maxHeartbeats 4000000 in
theorem ok_law_jostled (t : Tx K mg) (d_law_mind : Def P w K mg base "_law_mind" 1 3 (G_law_mind K)) (F : FunD K "_law_jostled" "_law_jostled" (defArgs s_law_jostled) (defBody s_law_jostled) (defScope s_law_jostled) [] [] f fd) : FnOk P w K mg base CX0 2 f fd ["_law_row_here", "_law_pairs", "_law_script"] (spD K 3 (G_law_jostled K)) :=
  fn_ok (T := T_law_jostled K) F sc_law_jostled rfl (fun cdv A outer s H B He hr => (sd_cons (sd_set (i := 3) sc_law_jostled.nd (pd_ty (call_list_of) cd_list t.b_list boot_list (pa_c (pd_var (pv 0)) pa_0)))
  (sd_cons (sd_for rfl (pi_l (pd_var (pv 2))) (pg_n sc_law_jostled.nd (i := 4)) (sd_cons (sd_set (i := 5) sc_law_jostled.nd (pd_fz (pd_mod (pd_fdiv (pd_var (pv 4)) pd_int) (pd_fn (call_max2 rfl) cd_max2 t.b_max boot_max (pa_c pd_int (pa_c (pd_sub (pd_fn (call_len_seq) cd_len t.b_len PySem.boot_len (pa_c (pd_var (pv 3)) pa_0)) pd_int) pa_0))))))
  (sd_one (sd_if (PWd.t (pw_a (pt_cmp1 op_lt od_lt (pd_add (pd_var (pv 5)) pd_int) (pd_fn (call_len_seq) cd_len t.b_len PySem.boot_len (pa_c (pd_var (pv 3)) pa_0))) (pw_a1 (pt_n (pt_e (pd_defB d_law_mind hn_law_mind (hr.mono (by decide)) (pa_c (pd_var (pv 1)) (pa_c (pd_ix (pd_var (pv 3)) (pd_var (pv 5))) (pa_c (pd_ix (pd_var (pv 3)) (pd_add (pd_var (pv 5)) pd_int)) pa_0))))))))) (sd_one (sd_swap2 (k := 3) rfl (pd_var (pv 5)) (pd_add (pd_var (pv 5)) pd_int) (pd_tup (pa_c (pd_ix (pd_var (pv 3)) (pd_add (pd_var (pv 5)) pd_int)) (pa_c (pd_ix (pd_var (pv 3)) (pd_var (pv 5))) pa_0))) (fun _ h => pg_sub (pv 3) h set_list) (fun _ h => pg_sub (pv 3) h set_list))) sd_nil))))
  (sd_one (sd_retM (pv 3)))))) rd_law_jostled
set_option maxHeartbeats 4000000 in
theorem ok_law_crossed (t : Tx K mg) (d_law_mind : Def P w K mg base "_law_mind" 1 3 (G_law_mind K)) (F : FunD K "_law_crossed" "_law_crossed" (defArgs s_law_crossed) (defBody s_law_crossed) (defScope s_law_crossed) [] [] f fd) : FnOk P w K mg base CX0 2 f fd ["_law_row_here", "_law_pairs", "_law_script"] (spD K 3 (G_law_crossed K)) :=
  fn_ok (T := T_law_crossed K) F sc_law_crossed rfl (fun cdv A outer s H B He hr => (sd_cons (sd_set (i := 3) sc_law_crossed.nd (pd_ty (call_list_of) cd_list t.b_list boot_list (pa_c (pd_var (pv 0)) pa_0)))
  (sd_cons (sd_for rfl (pi_r1 t.b_range (pa_c (pd_sub (pd_fn (call_len_seq) cd_len t.b_len PySem.boot_len (pa_c (pd_var (pv 0)) pa_0)) pd_int) pa_0)) (pg_n sc_law_crossed.nd (i := 4)) (sd_cons (sd_set (i := 5) sc_law_crossed.nd (pd_fz (pd_mod (pd_add (pd_var (pv 4)) (pd_fn (cr_sum rfl) cd_sum t.b_sum boot_sum (pa_c (pd_var (pv 2)) pa_0))) (pd_sub (pd_fn (call_len_seq) cd_len t.b_len PySem.boot_len (pa_c (pd_var (pv 0)) pa_0)) pd_int))))
  (sd_one (sd_if (PWd.t (pw_a (pt_cmp1 (op_neD (hu64 hr)) od_ne (pd_ix (pd_var (pv 0)) (pd_var (pv 5))) (pd_ix (pd_var (pv 0)) (pd_add (pd_var (pv 5)) pd_int))) (pw_a1 (pt_e (pd_def d_law_mind hn_law_mind (hr.mono (by decide)) (pa_c (pd_var (pv 1)) (pa_c (pd_ix (pd_var (pv 0)) (pd_var (pv 5))) (pa_c (pd_ix (pd_var (pv 0)) (pd_add (pd_var (pv 5)) pd_int)) pa_0)))))))) (sd_cons (sd_swap2 (k := 3) rfl (pd_var (pv 5)) (pd_add (pd_var (pv 5)) pd_int) (pd_tup (pa_c (pd_ix (pd_var (pv 0)) (pd_add (pd_var (pv 5)) pd_int)) (pa_c (pd_ix (pd_var (pv 0)) (pd_var (pv 5))) pa_0))) (fun _ h => pg_sub (pv 3) h set_list) (fun _ h => pg_sub (pv 3) h set_list))
  (sd_one (sd_retM (pv 3)))) sd_nil))))
  (sd_one (sd_retM (pv 3)))))) rd_law_crossed
set_option maxHeartbeats 4000000 in
theorem ok_law_part (t : Tx K mg) (F : FunD K "_law_part" "_law_part" (defArgs s_law_part) (defBody s_law_part) (defScope s_law_part) [] [] f fd) : FnOk P w K mg base CX0 1 f fd ["_law_row_here", "_law_one", "_law_other"] (spD K 3 (G_law_part K)) :=
  fn_ok (T := T_law_part K) F sc_law_part rfl (fun cdv A outer s H B He hr => (sd_one (sd_ret (by exact (pd_lc rfl sc_law_part.nd (pi_l (pd_var (pv 0))) (blkOk_by (own := [("_law_kind", 3)]) (N := N_law_part) (sc := defScope s_law_part) (by decide +kernel)) (fun _ _ _ _ _ => pg_name sc_law_part.nd rfl (Or.inl rfl)) (fun _ _ _ _ _ => (pto (PWd.t (pw_o (pt_cmp1 (op_eqD (hu64 hr)) od_eq (pd_var (pv 3)) (pd_var (pv 1))) (pw_o1 (pt_cmp1 (op_eqD (hu64 hr)) od_eq (pd_var (pv 3)) (pd_var (pv 2)))))))) (fun _ _ _ _ _ => (pd_var (pv 3)))))))) rd_law_part
set_option maxHeartbeats 4000000 in
theorem ok_law_couple (t : Tx K mg) (F : FunD K "_law_couple" "_law_couple" (defArgs s_law_couple) (defBody s_law_couple) (defScope s_law_couple) [] [] f fd) : FnOk P w K mg base CX0 1 f fd ["_law_kinds", "_law_pairs", "_law_one", "_law_other"] (spD K 4 (G_law_couple K)) :=
  fn_ok (T := T_law_couple K) F sc_law_couple rfl (fun cdv A outer s H B He hr => (sd_cons (sd_for rfl (pi_l (pd_fz (pd_lst (pa_c (pd_var (pv 2)) (pa_c (pd_var (pv 3)) pa_0))))) (pg_n sc_law_couple.nd (i := 4)) (sd_one (sd_if (PWd.t (pw_o (pt_e (pd_isi t.b_isinstance (pe_typ t.b_bool boot_bool) (.ty _) (pd_var (pv 4)))) (pw_o (pt_n (pt_e (pd_isi t.b_isinstance (pe_typ t.b_int boot_int) (.ty _) (pd_var (pv 4))))) (pw_o1 (pt_n (pt_chain1 op_le op_lt od_le od_lt pd_int (pd_var (pv 4)) (pd_var (pv 0)))))))) (sd_one (sd_ret pd_bl)) sd_nil)))
  (sd_one (sd_ret (pd_or (pd_cmp (op_eqD (hu64 hr)) od_eq (pd_var (pv 2)) (pd_var (pv 3))) (pd_one (pd_cmp (op_inD (hu65 hr)) od_in (pd_tup (pa_c (pd_var (pv 2)) (pa_c (pd_var (pv 3)) pa_0))) (pd_var (pv 1))))))))) rd_law_couple
set_option maxHeartbeats 4000000 in
theorem ok_law_is_row (t : Tx K mg) (F : FunD K "_law_is_row" "_law_is_row" (defArgs s_law_is_row) (defBody s_law_is_row) (defScope s_law_is_row) [] [] f fd) : FnOk P w K mg base CX0 1 f fd ["_law_row_here", "_law_kinds"] (spD K 2 (G_law_is_row K)) :=
  fn_ok (T := T_law_is_row K) F sc_law_is_row rfl (fun cdv A outer s H B He hr => (sd_cons (sd_if (PWd.t (pw_o (pt_n (pt_e (pd_isi t.b_isinstance (pe_typ t.b_list boot_list) (.ty _) (pd_var (pv 0))))) (pw_o1 (pt_e (pd_fn (cr_any rfl) cd_any t.b_any boot_any (pa_c (by exact (pd_lc rfl sc_law_is_row.nd (pi_l (pd_var (pv 0))) (blkOk_by (own := [("_law_kind", 2)]) (N := N_law_is_row) (sc := defScope s_law_is_row) (by decide +kernel)) (fun _ _ _ _ _ => pg_name sc_law_is_row.nd rfl (Or.inl rfl)) (fun _ _ _ _ _ => ptn) (fun _ _ _ _ _ => (pd_or (pd_isi t.b_isinstance (pe_typ t.b_bool boot_bool) (.ty _) (pd_var (pv 2))) (pd_one (pd_not (pd_isi t.b_isinstance (pe_typ t.b_int boot_int) (.ty _) (pd_var (pv 2))))))))) pa_0)))))) (sd_one (sd_ret pd_bl)) sd_nil)
  (sd_one (sd_ret (pd_fn (cr_all rfl) cd_all t.b_all boot_all (pa_c (by exact (pd_lc rfl sc_law_is_row.nd (pi_l (pd_var (pv 0))) (blkOk_by (own := [("_law_kind", 2)]) (N := N_law_is_row) (sc := defScope s_law_is_row) (by decide +kernel)) (fun _ _ _ _ _ => pg_name sc_law_is_row.nd rfl (Or.inl rfl)) (fun _ _ _ _ _ => ptn) (fun _ _ _ _ _ => (pd_chain op_le op_lt od_le od_lt pd_int (pd_var (pv 2)) (pd_var (pv 1)))))) pa_0)))))) rd_law_is_row
set_option maxHeartbeats 4000000 in
theorem ok_law_same (t : Tx K mg) (d_law_mind : Def P w K mg base "_law_mind" 1 3 (G_law_mind K)) (d_law_is_row : Def P w K mg base "_law_is_row" 1 2 (G_law_is_row K)) (F : FunD K "_law_same" "_law_same" (defArgs s_law_same) (defBody s_law_same) (defScope s_law_same) [] [] f fd) : FnOk P w K mg base CX0 2 f fd ["_law_kinds", "_law_pairs", "_law_one", "_law_other"] (spD K 4 (G_law_same K)) :=
  fn_ok (T := T_law_same K) F sc_law_same rfl (fun cdv A outer s H B He hr => (sd_cons (sd_set (i := 4) sc_law_same.nd (pd_fz (pd_ty (call_list_of) cd_list t.b_list boot_list (pa_c (pd_var (pv 3)) pa_0))))
  (sd_cons (sd_if (PWd.t (pw_o (pt_cmp1 (op_neD (hu64 hr)) od_ne (pd_fn (call_len_seq) cd_len t.b_len PySem.boot_len (pa_c (pd_var (pv 2)) pa_0)) (pd_fn (call_len_seq) cd_len t.b_len PySem.boot_len (pa_c (pd_var (pv 3)) pa_0))) (pw_o (pt_n (pt_e (pd_def d_law_is_row hn_law_is_row (hr.mono (by decide)) (pa_c (pd_var (pv 2)) (pa_c (pd_var (pv 0)) pa_0))))) (pw_o1 (pt_n (pt_e (pd_def d_law_is_row hn_law_is_row (hr.mono (by decide)) (pa_c (pd_var (pv 3)) (pa_c (pd_var (pv 0)) pa_0))))))))) (sd_one (sd_ret pd_bl)) sd_nil)
  (sd_cons (sd_for rfl (pi_l (pd_var (pv 2))) (pg_n sc_law_same.nd (i := 5)) (sd_cons (sd_if (pt_cmp1 (op_notInD (hu65 hr)) od_notIn (pd_var (pv 5)) (pd_var (pv 4))) (sd_one (sd_ret pd_bl)) sd_nil)
  (sd_cons (sd_set (i := 6) sc_law_same.nd (pd_fz (pd_index (pd_var (pv 4)) (pa_c (pd_var (pv 5)) pa_0))))
  (sd_cons (sd_if (pt_e (pd_fn (cr_any rfl) cd_any t.b_any boot_any (pa_c (by exact (pd_lc rfl sc_law_same.nd (pi_l (pd_fz (pd_sl (pd_var (pv 4)) po_0 (po_1 (pd_var (pv 6)))))) (blkOk_by (own := [("_law_ahead", 7)]) (N := N_law_same) (sc := defScope s_law_same) (by decide +kernel)) (fun _ _ _ _ _ => pg_name sc_law_same.nd rfl (Or.inl rfl)) (fun _ _ _ _ _ => ptn) (fun _ _ _ _ _ => (pd_fz (pd_def d_law_mind hn_law_mind (hr.mono (by decide)) (pa_c (pd_var (pv 1)) (pa_c (pd_var (pv 5)) (pa_c (pd_var (pv 7)) pa_0)))))))) pa_0))) (sd_one (sd_ret pd_bl)) sd_nil)
  (sd_one (sd_set (i := 4) sc_law_same.nd (pd_fz (pd_add (pd_sl (pd_var (pv 4)) po_0 (po_1 (pd_var (pv 6)))) (pd_sl (pd_var (pv 4)) (po_1 (pd_add (pd_var (pv 6)) pd_int)) po_0)))))))))
  (sd_one (sd_ret pd_bl)))))) rd_law_same
set_option maxHeartbeats 4000000 in
theorem ok_law_due (t : Tx K mg) (d_law_mind : Def P w K mg base "_law_mind" 1 3 (G_law_mind K)) (d_law_part : Def P w K mg base "_law_part" 1 3 (G_law_part K)) (d_law_couple : Def P w K mg base "_law_couple" 1 4 (G_law_couple K)) (F : FunD K "_law_due" "_law_due" (defArgs s_law_due) (defBody s_law_due) (defScope s_law_due) [] [] f fd) : FnOk P w K mg base CX0 2 f fd ["_law_kinds", "_law_pairs", "_law_one", "_law_other", "_law_found"] (spD K 5 (G_law_due K)) :=
  fn_ok (T := T_law_due K) F sc_law_due rfl (fun cdv A outer s H B He hr => (sd_cons (sd_if (pt_e (pd_isi t.b_isinstance (pe_own t.c_Unlike) (.own _) (pd_var (pv 4)))) (sd_cons (sd_if (pt_n (pt_e (pd_def d_law_couple hn_law_couple (hr.mono (by decide)) (pa_c (pd_var (pv 0)) (pa_c (pd_var (pv 1)) (pa_c (pd_fld (pd_var (pv 4))) (pa_c (pd_fld (pd_var (pv 4))) pa_0))))))) (sd_one (sd_ret pd_bl)) sd_nil)
  (sd_one (sd_ret (pd_cmp (op_neD (hu64 hr)) od_ne (pd_def d_law_part hn_law_part (hr.mono (by decide)) (pa_c (pd_var (pv 2)) (pa_c (pd_fld (pd_var (pv 4))) (pa_c (pd_fld (pd_var (pv 4))) pa_0)))) (pd_def d_law_part hn_law_part (hr.mono (by decide)) (pa_c (pd_var (pv 3)) (pa_c (pd_fld (pd_var (pv 4))) (pa_c (pd_fld (pd_var (pv 4))) pa_0)))))))) sd_nil)
  (sd_cons (sd_set (i := 5) sc_law_due.nd (pd_ty (call_list_of) cd_list t.b_list boot_list (pa_c (pd_var (pv 2)) pa_0)))
  (sd_cons (sd_for rfl (pi_l (pd_fld (pd_var (pv 4)))) (pg_n sc_law_due.nd (i := 6)) (sd_cons (sd_if (PWd.t (pw_o (pt_e (pd_isi t.b_isinstance (pe_typ t.b_bool boot_bool) (.ty _) (pd_var (pv 6)))) (pw_o (pt_n (pt_e (pd_isi t.b_isinstance (pe_typ t.b_int boot_int) (.ty _) (pd_var (pv 6))))) (pw_o1 (pt_n (pt_chain1 op_le op_lt od_le od_lt pd_int (pd_var (pv 6)) (pd_sub (pd_fn (call_len_seq) cd_len t.b_len PySem.boot_len (pa_c (pd_var (pv 5)) pa_0)) pd_int))))))) (sd_one (sd_ret pd_bl)) sd_nil)
  (sd_cons (sd_if (pt_e (pd_defB d_law_mind hn_law_mind (hr.mono (by decide)) (pa_c (pd_var (pv 1)) (pa_c (pd_ix (pd_var (pv 5)) (pd_var (pv 6))) (pa_c (pd_ix (pd_var (pv 5)) (pd_add (pd_var (pv 6)) pd_int)) pa_0))))) (sd_one (sd_ret pd_bl)) sd_nil)
  (sd_one (sd_swap2 (k := 5) rfl (pd_var (pv 6)) (pd_add (pd_var (pv 6)) pd_int) (pd_tup (pa_c (pd_ix (pd_var (pv 5)) (pd_add (pd_var (pv 6)) pd_int)) (pa_c (pd_ix (pd_var (pv 5)) (pd_var (pv 6))) pa_0))) (fun _ h => pg_sub (pv 5) h set_list) (fun _ h => pg_sub (pv 5) h set_list))))))
  (sd_one (sd_ret (pd_cmp (op_eqD (hu64 hr)) od_eq (pd_var (pv 5)) (pd_var (pv 3))))))))) (rd_law_due t.ans)
set_option maxHeartbeats 4000000 in
theorem ok_law_right (t : Tx K mg) (d_Same_shows : MDef P w K mg base (He.ga K "Same") "shows" 2 4 (G_Same_shows K)) (d_Unlike_shows : MDef P w K mg base (He.ga K "Unlike") "shows" 5 4 (G_Unlike_shows K)) (d_alike : Def P w K mg base "alike" 5 3 (G_alike K)) (d_law_same : Def P w K mg base "_law_same" 2 4 (G_law_same K)) (d_law_due : Def P w K mg base "_law_due" 2 5 (G_law_due K)) (F : FunD K "_law_right" "_law_right" (defArgs s_law_right) (defBody s_law_right) (defScope s_law_right) [] [] f fd) : FnOk P w K mg base CX0 6 f fd ["_law_minds_here", "_law_kinds", "_law_pairs", "_law_one", "_law_other"] (spD K 5 (G_law_right K)) :=
  fn_ok (T := T_law_right K) F sc_law_right rfl (fun cdv A outer s H B He hr => (sd_cons (sd_set (i := 5) sc_law_right.nd (pd_fz (pd_lst (pa_c (pd_fz (pd_ty (call_list_of) cd_list t.b_list boot_list (pa_c (pd_var (pv 3)) pa_0))) (pa_c (pd_fz (pd_ty (call_list_of) cd_list t.b_list boot_list (pa_c (pd_var (pv 4)) pa_0))) pa_0)))))
  (sd_cons (sd_set (i := 6) sc_law_right.nd (pd_def d_alike hn_alike (hr.mono (by decide)) (pa_c (pd_var (pv 0)) (pa_c (pd_ix (pd_var (pv 5)) pd_int) (pa_c (pd_ix (pd_var (pv 5)) pd_int) pa_0)))))
  (sd_cons (sd_if (PWd.t (pw_o (pt_n (pt_e (pd_isi t.b_isinstance (pe_own t.c_Answer) (.own _) (pd_var (pv 6))))) (pw_o (pt_cmp1 (op_eqD (hu64 hr)) od_eq (pd_isi t.b_isinstance (pe_own t.c_Same) (.own _) (pd_var (pv 6))) (pd_isi t.b_isinstance (pe_own t.c_Unlike) (.own _) (pd_var (pv 6)))) (pw_o1 (pt_cmp1 (op_neD (hu64 hr)) od_ne (pd_var (pv 5)) (pd_lst (pa_c (pd_var (pv 3)) (pa_c (pd_var (pv 4)) pa_0)))))))) (sd_one (sd_ret pd_bl)) sd_nil)
  (sd_cons (sd_if (pt_e (pd_fn (cr_any rfl) cd_any t.b_any boot_any (pa_c (pd_lst (pa_c (pd_fz (pd_isi t.b_isinstance (pe_own t.c_Both) (.own _) (pd_var (pv 6)))) (pa_c (pd_fz (pd_isi t.b_isinstance (pe_own t.c_Held) (.own _) (pd_var (pv 6)))) (pa_c (pd_fz (pd_isi t.b_isinstance (pe_own t.c_Odds) (.own _) (pd_var (pv 6)))) pa_0)))) pa_0))) (sd_one (sd_ret pd_bl)) sd_nil)
  (sd_cons (sd_if (pt_e (pd_fn (cr_any rfl) cd_any t.b_any boot_any (pa_c (pd_lst (pa_c (pd_fz (pd_isi t.b_isinstance (pe_own t.c_Rest) (.own _) (pd_var (pv 6)))) (pa_c (pd_fz (pd_isi t.b_isinstance (pe_own t.c_Rounds) (.own _) (pd_var (pv 6)))) (pa_c (pd_fz (pd_isi t.b_isinstance (pe_own t.c_Shared) (.own _) (pd_var (pv 6)))) pa_0)))) pa_0))) (sd_one (sd_ret pd_bl)) sd_nil)
  (sd_cons (sd_if (PWd.t (pw_o (pt_cmp1 (op_neD (hu64 hr)) od_ne (pd_isi t.b_isinstance (pe_own t.c_Same) (.own _) (pd_var (pv 6))) (pd_def d_law_same hn_law_same (hr.mono (by decide)) (pa_c (pd_var (pv 1)) (pa_c (pd_var (pv 2)) (pa_c (pd_var (pv 3)) (pa_c (pd_var (pv 4)) pa_0)))))) (pw_o1 (pt_n (pt_e (pd_defB d_law_due hn_law_due (hr.mono (by decide)) (pa_c (pd_var (pv 1)) (pa_c (pd_var (pv 2)) (pa_c (pd_var (pv 3)) (pa_c (pd_var (pv 4)) (pa_c (pd_var (pv 6)) pa_0))))))))))) (sd_one (sd_ret pd_bl)) sd_nil)
  (sd_cons (sd_if (pt_cmp1 op_notBl od_isNot (pd_o2 (pd_mdefB t.k_Same d_Same_shows hn_Same_shows (hr.mono (by decide)) (pd_var (pv 6)) (pa_c (pd_var (pv 0)) (pa_c (pd_var (pv 3)) (pa_c (pd_var (pv 4)) pa_0)))) (pd_mdefB t.k_Unlike d_Unlike_shows hn_Unlike_shows (hr.mono (by decide)) (pd_var (pv 6)) (pa_c (pd_var (pv 0)) (pa_c (pd_var (pv 3)) (pa_c (pd_var (pv 4)) pa_0))))) pd_bl) (sd_one (sd_ret pd_bl)) sd_nil)
  (sd_cons (sd_if (pt_cmp1 (op_neD (hu64 hr)) od_ne (pd_o2 (pd_mdefB t.k_Same d_Same_shows hn_Same_shows (hr.mono (by decide)) (pd_var (pv 6)) (pa_c (pd_var (pv 0)) (pa_c (pd_var (pv 4)) (pa_c (pd_var (pv 3)) pa_0)))) (pd_mdefB t.k_Unlike d_Unlike_shows hn_Unlike_shows (hr.mono (by decide)) (pd_var (pv 6)) (pa_c (pd_var (pv 0)) (pa_c (pd_var (pv 4)) (pa_c (pd_var (pv 3)) pa_0))))) (pd_defB d_law_due hn_law_due (hr.mono (by decide)) (pa_c (pd_var (pv 1)) (pa_c (pd_var (pv 2)) (pa_c (pd_var (pv 4)) (pa_c (pd_var (pv 3)) (pa_c (pd_var (pv 6)) pa_0))))))) (sd_one (sd_ret pd_bl)) sd_nil)
  (sd_cons (sd_if (pt_e (pd_isi t.b_isinstance (pe_own t.c_Same) (.own _) (pd_var (pv 6)))) (sd_cons (sd_appF (pv 6) (pd_ng pd_int))
  (sd_one (sd_ret (pd_cmp op_isBl od_is (pd_o2 (pd_mdefB t.k_Same d_Same_shows hn_Same_shows (hr.mono (by decide)) (pd_var (pv 6)) (pa_c (pd_var (pv 0)) (pa_c (pd_var (pv 3)) (pa_c (pd_var (pv 4)) pa_0)))) (pd_mdefB t.k_Unlike d_Unlike_shows hn_Unlike_shows (hr.mono (by decide)) (pd_var (pv 6)) (pa_c (pd_var (pv 0)) (pa_c (pd_var (pv 3)) (pa_c (pd_var (pv 4)) pa_0))))) pd_bl)))) sd_nil)
  (sd_one (sd_ret pd_bl)))))))))))) (rd_law_right t.ans)
set_option maxHeartbeats 4000000 in
theorem ok_law (t : Tx K mg) (d_Minds_init : CDef P w K mg base (He.ga K "Minds") "Minds" 3 2 (G_Minds_init K)) (d_law_minds : Def P w K mg base "_law_minds" 1 1 (G_law_minds K)) (d_law_row : Def P w K mg base "_law_row" 1 3 (G_law_row K)) (d_law_jostled : Def P w K mg base "_law_jostled" 2 3 (G_law_jostled K)) (d_law_crossed : Def P w K mg base "_law_crossed" 2 3 (G_law_crossed K)) (d_law_right : Def P w K mg base "_law_right" 6 5 (G_law_right K)) (F : FunD K "law" "law" (defArgs s_law) (defBody s_law) (defScope s_law) [] [] f fd) : FnOk P w K mg base CX0 7 f fd ["_law_script"] (spD K 1 (G_law K)) :=
  fn_ok (T := T_law K) F sc_law rfl (fun cdv A outer s H B He hr => (sd_cons (sd_setT (is := [1, 2]) (pg_tup rfl (pgs_cons (pg_name (i := 1) sc_law.nd rfl (.inl rfl)) (pgs_cons (pg_name (i := 2) sc_law.nd rfl (.inl rfl)) pgs_nil))) (pd_fz (pd_def d_law_minds hn_law_minds (hr.mono (by decide)) (pa_c (pd_var (pv 0)) pa_0))))
  (sd_cons (sd_par2_of (fun t h => ps_par (i := 3) (j := 4) rfl sc_law.nd rfl rfl (by decide) rfl rfl h (by rfl)) (pd_fz (pd_cdef d_Minds_init hn_Minds_init (hr.mono (by decide)) (pa_c (pd_var (pv 1)) (pa_c (pd_fz (pd_ty (call_list_of) cd_list t.b_list boot_list (pa_c (pd_var (pv 2)) pa_0))) pa_0)))) (pd_fz (pd_def d_law_row hn_law_row (hr.mono (by decide)) (pa_c (pd_var (pv 0)) (pa_c (pd_var (pv 1)) (pa_c pd_int pa_0))))))
  (sd_cons (sd_set (i := 5) sc_law.nd (pd_fz (pd_def d_law_jostled hn_law_jostled (hr.mono (by decide)) (pa_c (pd_var (pv 4)) (pa_c (pd_var (pv 2)) (pa_c (pd_var (pv 0)) pa_0))))))
  (sd_cons (sd_for rfl (pi_l (pd_fz (pd_lst (pa_c (pd_var (pv 5)) (pa_c (pd_fz (pd_def d_law_crossed hn_law_crossed (hr.mono (by decide)) (pa_c (pd_var (pv 5)) (pa_c (pd_var (pv 2)) (pa_c (pd_var (pv 0)) pa_0))))) (pa_c (pd_fz (pd_def d_law_row hn_law_row (hr.mono (by decide)) (pa_c (pd_var (pv 0)) (pa_c (pd_var (pv 1)) (pa_c pd_int pa_0))))) (pa_c (pd_fz (pd_sl (pd_var (pv 5)) (po_1 pd_int) po_0)) (pa_c (pd_var (pv 5)) pa_0)))))))) (pg_n sc_law.nd (i := 6)) (sd_one (sd_if (pt_n (pt_e (pd_def d_law_right hn_law_right (hr.mono (by decide)) (pa_c (pd_var (pv 3)) (pa_c (pd_var (pv 1)) (pa_c (pd_var (pv 2)) (pa_c (pd_var (pv 4)) (pa_c (pd_var (pv 6)) pa_0)))))))) (sd_one (sd_ret pd_bl)) sd_nil)))
  (sd_cons (sd_set (i := 7) sc_law.nd (pd_fz (pd_def d_law_row hn_law_row (hr.mono (by decide)) (pa_c (pd_var (pv 0)) (pa_c (pd_var (pv 1)) (pa_c pd_int pa_0))))))
  (sd_cons (sd_if (PWd.t (pw_o (pt_n (pt_e (pd_def d_law_right hn_law_right (hr.mono (by decide)) (pa_c (pd_fz (pd_cdef d_Minds_init hn_Minds_init (hr.mono (by decide)) (pa_c (pd_var (pv 1)) (pa_c (pd_fz (pd_lst pa_0)) pa_0)))) (pa_c (pd_var (pv 1)) (pa_c (pd_fz (pd_lst pa_0)) (pa_c (pd_var (pv 4)) (pa_c (pd_var (pv 7)) pa_0)))))))) (pw_o1 (pt_n (pt_e (pd_def d_law_right hn_law_right (hr.mono (by decide)) (pa_c (pd_var (pv 3)) (pa_c (pd_var (pv 1)) (pa_c (pd_var (pv 2)) (pa_c (pd_var (pv 4)) (pa_c (pd_var (pv 7)) pa_0))))))))))) (sd_one (sd_ret pd_bl)) sd_nil)
  (sd_one (sd_ret (pd_def d_law_right hn_law_right (hr.mono (by decide)) (pa_c (pd_fz (pd_cdef d_Minds_init hn_Minds_init (hr.mono (by decide)) (pa_c (pd_var (pv 1)) (pa_c (pd_fz (pd_lst pa_0)) pa_0)))) (pa_c (pd_var (pv 1)) (pa_c (pd_fz (pd_lst pa_0)) (pa_c (pd_var (pv 4)) (pa_c (pd_fz (pd_rev (pd_var (pv 4)))) pa_0))))))))))))))) rd_law
end
end J
namespace J
open PySem PySem.Spec PyProof.Rows L2
abbrev dd_is_number : He.DefD := ⟨("is_number", none), "is_number", "is_number", defArgs s_is_number, defBody s_is_number, defScope s_is_number, [], []⟩
abbrev dd_is_pair : He.DefD := ⟨("is_pair", none), "is_pair", "is_pair", defArgs s_is_pair, defBody s_is_pair, defScope s_is_pair, [], []⟩
abbrev dd_Minds_init : He.DefD := ⟨("Minds", some "__init__"), "__init__", "Minds.__init__", defArgs s_Minds_init, defBody s_Minds_init, defScope s_Minds_init, [], []⟩
abbrev dd_Minds_minding : He.DefD := ⟨("Minds", some "minding"), "minding", "Minds.minding", defArgs s_Minds_minding, defBody s_Minds_minding, defScope s_Minds_minding, [], []⟩
abbrev dd_Minds_is_kind : He.DefD := ⟨("Minds", some "is_kind"), "is_kind", "Minds.is_kind", defArgs s_Minds_is_kind, defBody s_Minds_is_kind, defScope s_Minds_is_kind, [], []⟩
abbrev dd_check_row : He.DefD := ⟨("check_row", none), "check_row", "check_row", defArgs s_check_row, defBody s_check_row, defScope s_check_row, [], []⟩
abbrev dd_part_of : He.DefD := ⟨("part_of", none), "part_of", "part_of", defArgs s_part_of, defBody s_part_of, defScope s_part_of, [], []⟩
abbrev dd_place_first : He.DefD := ⟨("place_first", none), "place_first", "place_first", defArgs s_place_first, defBody s_place_first, defScope s_place_first, [], []⟩
abbrev dd_without : He.DefD := ⟨("without", none), "without", "without", defArgs s_without, defBody s_without, defScope s_without, [], []⟩
abbrev dd_led : He.DefD := ⟨("led", none), "led", "led", defArgs s_led, defBody s_led, defScope s_led, [], []⟩
abbrev dd_couples : He.DefD := ⟨("couples", none), "couples", "couples", defArgs s_couples, defBody s_couples, defScope s_couples, [], []⟩
abbrev dd_unlike : He.DefD := ⟨("unlike", none), "unlike", "unlike", defArgs s_unlike, defBody s_unlike, defScope s_unlike, [], []⟩
abbrev dd_are_kinds : He.DefD := ⟨("are_kinds", none), "are_kinds", "are_kinds", defArgs s_are_kinds, defBody s_are_kinds, defScope s_are_kinds, [], []⟩
abbrev dd_Same_init : He.DefD := ⟨("Same", some "__init__"), "__init__", "Same.__init__", defArgs s_Same_init, defBody s_Same_init, defScope s_Same_init, [], []⟩
abbrev dd_Same_shows : He.DefD := ⟨("Same", some "shows"), "shows", "Same.shows", defArgs s_Same_shows, defBody s_Same_shows, defScope s_Same_shows, [], []⟩
abbrev dd_parts : He.DefD := ⟨("parts", none), "parts", "parts", defArgs s_parts, defBody s_parts, defScope s_parts, [], []⟩
abbrev dd_Unlike_init : He.DefD := ⟨("Unlike", some "__init__"), "__init__", "Unlike.__init__", defArgs s_Unlike_init, defBody s_Unlike_init, defScope s_Unlike_init, [], []⟩
abbrev dd_Unlike_shows : He.DefD := ⟨("Unlike", some "shows"), "shows", "Unlike.shows", defArgs s_Unlike_shows, defBody s_Unlike_shows, defScope s_Unlike_shows, [], []⟩
abbrev dd_check_two : He.DefD := ⟨("check_two", none), "check_two", "check_two", defArgs s_check_two, defBody s_check_two, defScope s_check_two, [], []⟩
abbrev dd_alike : He.DefD := ⟨("alike", none), "alike", "alike", defArgs s_alike, defBody s_alike, defScope s_alike, [], []⟩
abbrev dd_law_minds : He.DefD := ⟨("_law_minds", none), "_law_minds", "_law_minds", defArgs s_law_minds, defBody s_law_minds, defScope s_law_minds, [], []⟩
abbrev dd_law_mind : He.DefD := ⟨("_law_mind", none), "_law_mind", "_law_mind", defArgs s_law_mind, defBody s_law_mind, defScope s_law_mind, [], []⟩
abbrev dd_law_row : He.DefD := ⟨("_law_row", none), "_law_row", "_law_row", defArgs s_law_row, defBody s_law_row, defScope s_law_row, [], []⟩
abbrev dd_law_jostled : He.DefD := ⟨("_law_jostled", none), "_law_jostled", "_law_jostled", defArgs s_law_jostled, defBody s_law_jostled, defScope s_law_jostled, [], []⟩
abbrev dd_law_crossed : He.DefD := ⟨("_law_crossed", none), "_law_crossed", "_law_crossed", defArgs s_law_crossed, defBody s_law_crossed, defScope s_law_crossed, [], []⟩
abbrev dd_law_part : He.DefD := ⟨("_law_part", none), "_law_part", "_law_part", defArgs s_law_part, defBody s_law_part, defScope s_law_part, [], []⟩
abbrev dd_law_couple : He.DefD := ⟨("_law_couple", none), "_law_couple", "_law_couple", defArgs s_law_couple, defBody s_law_couple, defScope s_law_couple, [], []⟩
abbrev dd_law_is_row : He.DefD := ⟨("_law_is_row", none), "_law_is_row", "_law_is_row", defArgs s_law_is_row, defBody s_law_is_row, defScope s_law_is_row, [], []⟩
abbrev dd_law_same : He.DefD := ⟨("_law_same", none), "_law_same", "_law_same", defArgs s_law_same, defBody s_law_same, defScope s_law_same, [], []⟩
abbrev dd_law_due : He.DefD := ⟨("_law_due", none), "_law_due", "_law_due", defArgs s_law_due, defBody s_law_due, defScope s_law_due, [], []⟩
abbrev dd_law_right : He.DefD := ⟨("_law_right", none), "_law_right", "_law_right", defArgs s_law_right, defBody s_law_right, defScope s_law_right, [], []⟩
abbrev dd_law : He.DefD := ⟨("law", none), "law", "law", defArgs s_law, defBody s_law, defScope s_law, [], []⟩
def fnD : List He.DefD := ([dd_is_number, dd_is_pair, dd_Minds_init, dd_Minds_minding, dd_Minds_is_kind, dd_check_row, dd_part_of, dd_place_first, dd_without, dd_led, dd_couples, dd_unlike, dd_are_kinds, dd_Same_init, dd_Same_shows, dd_parts, dd_Unlike_init, dd_Unlike_shows, dd_check_two, dd_alike] : List He.DefD) ++ ([dd_law_minds, dd_law_mind, dd_law_row, dd_law_jostled, dd_law_crossed, dd_law_part, dd_law_couple, dd_law_is_row, dd_law_same, dd_law_due, dd_law_right, dd_law] : List He.DefD)
def faD : List He.Fa := ([.free "all", .free "any", .free "bool", .free "enumerate", .free "int", .free "isinstance", .free "len", .free "list", .free "max", .free "min", .free "range", .free "reversed", .free "set", .free "sorted", .free "sum", .free "tuple", .glo "Answer", .glo "Both", .glo "Held", .glo "Minds"] : List He.Fa) ++ ([.cls "Minds", .glo "Odds", .glo "Rest", .glo "Rounds", .glo "Same", .cls "Same", .glo "Shared", .glo "Unlike", .cls "Unlike", .noat "Minds" "kinds", .noat "Minds" "kept", .noat "Minds" "table", .glo "is_number", .glo "is_pair", .mkr "Minds", .meth "Minds" "minding", .meth "Minds" "is_kind", .glo "check_row", .glo "part_of", .glo "place_first"] : List He.Fa) ++ ([.glo "without", .glo "led", .glo "couples", .glo "unlike", .glo "are_kinds", .mkr "Same", .meth "Same" "shows", .glo "parts", .mkr "Unlike", .meth "Unlike" "shows", .glo "check_two", .glo "alike", .glo "_law_minds", .glo "_law_mind", .glo "_law_row", .glo "_law_jostled", .glo "_law_crossed", .glo "_law_part", .glo "_law_couple", .glo "_law_is_row"] : List He.Fa) ++ ([.glo "_law_same", .glo "_law_due", .glo "_law_right", .glo "law"] : List He.Fa)
def exD : PySem.W.Frag → Bool := ansB
abbrev RR : PySem.W.OpenRow := PySem.W.OpenLaw.row PySem.Challenge.rw_jostle_k02_whole_alike
abbrev hkD : PySem.W.Hook := He.hookX 5 faD fnD [] [] exD
def obD (s : PySem.W.SharedT) : He.AlX := He.obsX 5 faD fnD [] [] exD (HandSHeadRun.getT s)
theorem obD_eq (s : PySem.W.SharedT) : obD s = hkD.obs s.abs := He.obsX_eq (HandSHeadRun.getT_eq s)
def namesD : List Str := (["DeedError", "BadMinds", "BadRow", "is_number", "is_pair", "Minds", "check_row", "part_of", "place_first", "without", "led", "couples", "starts", "unlike", "firsts_of", "Answer", "are_kinds", "same", "Same", "parts"] : List Str) ++ (["Unlike", "Rest", "Held", "Both", "Odds", "Shared", "is_round", "Rounds", "check_two", "alike", "_law_minds", "_law_mind", "_law_row", "_law_jostled", "_law_crossed", "_law_part", "_law_couple", "_law_is_row", "_law_same", "_law_due"] : List Str) ++ (["_law_right"] : List Str)
theorem runD (w : World) : HandSHeadRun.RunEq RR (PySem.W.view RR.prog [47]) hkD obD 8000 namesD w := by
  intro os
  kernel_rfl
theorem factsD {P : Program} {w w2 : World} {K : PySem.W.Frag} {h : Heap} {mg : Str → Option Value} {f : Addr} (KX : K.In h) (KN : h.Ns mainGlobals mg) (hfa : mg ("law" : Str) = some (.ref f)) (cx : He.SaysX faD fnD [] [] exD w2 h K) :
    ∃ fd : FuncData, (∀ (s : Shared) (v : Value), BindsTo s fd ⟨[v], []⟩ [("_law_script", v)]) ∧ ∀ base : Heap, K.In base → base.Ns mainGlobals mg → FnOk P w K mg base CX0 7 f fd ["_law_script"] (spD K 1 (G_law K)) := by
  have c := cx.t.d
  have t : Tx K mg := ⟨He.free_ok KX KN (c.fact 0 (f := .free "all") rfl),
    He.free_ok KX KN (c.fact 1 (f := .free "any") rfl),
    He.free_ok KX KN (c.fact 2 (f := .free "bool") rfl),
    He.free_ok KX KN (c.fact 3 (f := .free "enumerate") rfl),
    He.free_ok KX KN (c.fact 4 (f := .free "int") rfl),
    He.free_ok KX KN (c.fact 5 (f := .free "isinstance") rfl),
    He.free_ok KX KN (c.fact 6 (f := .free "len") rfl),
    He.free_ok KX KN (c.fact 7 (f := .free "list") rfl),
    He.free_ok KX KN (c.fact 8 (f := .free "max") rfl),
    He.free_ok KX KN (c.fact 9 (f := .free "min") rfl),
    He.free_ok KX KN (c.fact 10 (f := .free "range") rfl),
    He.free_ok KX KN (c.fact 11 (f := .free "reversed") rfl),
    He.free_ok KX KN (c.fact 12 (f := .free "set") rfl),
    He.free_ok KX KN (c.fact 13 (f := .free "sorted") rfl),
    He.free_ok KX KN (c.fact 14 (f := .free "sum") rfl),
    He.free_ok KX KN (c.fact 15 (f := .free "tuple") rfl),
    He.glo_ok KX KN (c.fact 16 (f := .glo "Answer") rfl),
    He.glo_ok KX KN (c.fact 17 (f := .glo "Both") rfl),
    He.glo_ok KX KN (c.fact 18 (f := .glo "Held") rfl),
    He.glo_ok KX KN (c.fact 19 (f := .glo "Minds") rfl),
    He.cls_ok (c.fact 20 (f := .cls "Minds") rfl),
    He.glo_ok KX KN (c.fact 21 (f := .glo "Odds") rfl),
    He.glo_ok KX KN (c.fact 22 (f := .glo "Rest") rfl),
    He.glo_ok KX KN (c.fact 23 (f := .glo "Rounds") rfl),
    He.glo_ok KX KN (c.fact 24 (f := .glo "Same") rfl),
    He.cls_ok (c.fact 25 (f := .cls "Same") rfl),
    He.glo_ok KX KN (c.fact 26 (f := .glo "Shared") rfl),
    He.glo_ok KX KN (c.fact 27 (f := .glo "Unlike") rfl),
    He.cls_ok (c.fact 28 (f := .cls "Unlike") rfl),
    ⟨He.cls_ok (c.fact 20 (f := .cls "Minds") rfl), He.noat_ok (c.fact 29 (f := .noat "Minds" "kinds") rfl)⟩,
    ⟨He.cls_ok (c.fact 20 (f := .cls "Minds") rfl), He.noat_ok (c.fact 30 (f := .noat "Minds" "kept") rfl)⟩,
    ⟨He.cls_ok (c.fact 20 (f := .cls "Minds") rfl), He.noat_ok (c.fact 31 (f := .noat "Minds" "table") rfl)⟩,
    ⟨cx.more⟩⟩
  obtain ⟨v_is_number, F_is_number⟩ := c.def_ 0 (d := dd_is_number) rfl
  obtain ⟨v_is_pair, F_is_pair⟩ := c.def_ 1 (d := dd_is_pair) rfl
  obtain ⟨v_Minds_init, F_Minds_init⟩ := c.def_ 2 (d := dd_Minds_init) rfl
  obtain ⟨v_Minds_minding, F_Minds_minding⟩ := c.def_ 3 (d := dd_Minds_minding) rfl
  obtain ⟨v_Minds_is_kind, F_Minds_is_kind⟩ := c.def_ 4 (d := dd_Minds_is_kind) rfl
  obtain ⟨v_check_row, F_check_row⟩ := c.def_ 5 (d := dd_check_row) rfl
  obtain ⟨v_part_of, F_part_of⟩ := c.def_ 6 (d := dd_part_of) rfl
  obtain ⟨v_place_first, F_place_first⟩ := c.def_ 7 (d := dd_place_first) rfl
  obtain ⟨v_without, F_without⟩ := c.def_ 8 (d := dd_without) rfl
  obtain ⟨v_led, F_led⟩ := c.def_ 9 (d := dd_led) rfl
  obtain ⟨v_couples, F_couples⟩ := c.def_ 10 (d := dd_couples) rfl
  obtain ⟨v_unlike, F_unlike⟩ := c.def_ 11 (d := dd_unlike) rfl
  obtain ⟨v_are_kinds, F_are_kinds⟩ := c.def_ 12 (d := dd_are_kinds) rfl
  obtain ⟨v_Same_init, F_Same_init⟩ := c.def_ 13 (d := dd_Same_init) rfl
  obtain ⟨v_Same_shows, F_Same_shows⟩ := c.def_ 14 (d := dd_Same_shows) rfl
  obtain ⟨v_parts, F_parts⟩ := c.def_ 15 (d := dd_parts) rfl
  obtain ⟨v_Unlike_init, F_Unlike_init⟩ := c.def_ 16 (d := dd_Unlike_init) rfl
  obtain ⟨v_Unlike_shows, F_Unlike_shows⟩ := c.def_ 17 (d := dd_Unlike_shows) rfl
  obtain ⟨v_check_two, F_check_two⟩ := c.def_ 18 (d := dd_check_two) rfl
  obtain ⟨v_alike, F_alike⟩ := c.def_ 19 (d := dd_alike) rfl
  obtain ⟨v_law_minds, F_law_minds⟩ := c.def_ 20 (d := dd_law_minds) rfl
  obtain ⟨v_law_mind, F_law_mind⟩ := c.def_ 21 (d := dd_law_mind) rfl
  obtain ⟨v_law_row, F_law_row⟩ := c.def_ 22 (d := dd_law_row) rfl
  obtain ⟨v_law_jostled, F_law_jostled⟩ := c.def_ 23 (d := dd_law_jostled) rfl
  obtain ⟨v_law_crossed, F_law_crossed⟩ := c.def_ 24 (d := dd_law_crossed) rfl
  obtain ⟨v_law_part, F_law_part⟩ := c.def_ 25 (d := dd_law_part) rfl
  obtain ⟨v_law_couple, F_law_couple⟩ := c.def_ 26 (d := dd_law_couple) rfl
  obtain ⟨v_law_is_row, F_law_is_row⟩ := c.def_ 27 (d := dd_law_is_row) rfl
  obtain ⟨v_law_same, F_law_same⟩ := c.def_ 28 (d := dd_law_same) rfl
  obtain ⟨v_law_due, F_law_due⟩ := c.def_ 29 (d := dd_law_due) rfl
  obtain ⟨v_law_right, F_law_right⟩ := c.def_ 30 (d := dd_law_right) rfl
  obtain ⟨v_law, F_law⟩ := c.def_ 31 (d := dd_law) rfl
  have d_is_number : ∀ base : Heap, Def P w K mg base "is_number" 1 1 (G_is_number K) := fun base => ⟨_, v_is_number, _, ok_is_number t F_is_number, He.glo_ok KX KN (c.fact 32 (f := .glo "is_number") rfl), F_is_number.kp, F_is_number.bindsN fun _ _ _ _ _ _ us hl => match us, hl with | [_], _ => rfl⟩
  have d_is_pair : ∀ base : Heap, Def P w K mg base "is_pair" 2 2 (G_is_pair K) := fun base => ⟨_, v_is_pair, _, ok_is_pair t (d_is_number base) F_is_pair, He.glo_ok KX KN (c.fact 33 (f := .glo "is_pair") rfl), F_is_pair.kp, F_is_pair.bindsN fun _ _ _ _ _ _ us hl => match us, hl with | [_, _], _ => rfl⟩
  have d_Minds_init : ∀ base : Heap, CDef P w K mg base (He.ga K "Minds") "Minds" 3 2 (G_Minds_init K) := fun base => ⟨_, v_Minds_init, _, ok_Minds_init t (d_is_number base) (d_is_pair base) F_Minds_init, He.glo_ok KX KN (c.fact 19 (f := .glo "Minds") rfl), He.mkr_ok (c.fact 34 (f := .mkr "Minds") rfl), F_Minds_init.bindsN fun _ _ _ _ _ _ us hl => match us, hl with | [_, _, _], _ => rfl⟩
  have d_law_minds : ∀ base : Heap, Def P w K mg base "_law_minds" 1 1 (G_law_minds K) := fun base => ⟨_, v_law_minds, _, ok_law_minds t F_law_minds, He.glo_ok KX KN (c.fact 52 (f := .glo "_law_minds") rfl), F_law_minds.kp, F_law_minds.bindsN fun _ _ _ _ _ _ us hl => match us, hl with | [_], _ => rfl⟩
  have d_law_row : ∀ base : Heap, Def P w K mg base "_law_row" 1 3 (G_law_row K) := fun base => ⟨_, v_law_row, _, ok_law_row t F_law_row, He.glo_ok KX KN (c.fact 54 (f := .glo "_law_row") rfl), F_law_row.kp, F_law_row.bindsN fun _ _ _ _ _ _ us hl => match us, hl with | [_, _, _], _ => rfl⟩
  have d_law_mind : ∀ base : Heap, Def P w K mg base "_law_mind" 1 3 (G_law_mind K) := fun base => ⟨_, v_law_mind, _, ok_law_mind t F_law_mind, He.glo_ok KX KN (c.fact 53 (f := .glo "_law_mind") rfl), F_law_mind.kp, F_law_mind.bindsN fun _ _ _ _ _ _ us hl => match us, hl with | [_, _, _], _ => rfl⟩
  have d_law_jostled : ∀ base : Heap, Def P w K mg base "_law_jostled" 2 3 (G_law_jostled K) := fun base => ⟨_, v_law_jostled, _, ok_law_jostled t (d_law_mind base) F_law_jostled, He.glo_ok KX KN (c.fact 55 (f := .glo "_law_jostled") rfl), F_law_jostled.kp, F_law_jostled.bindsN fun _ _ _ _ _ _ us hl => match us, hl with | [_, _, _], _ => rfl⟩
  have d_law_crossed : ∀ base : Heap, Def P w K mg base "_law_crossed" 2 3 (G_law_crossed K) := fun base => ⟨_, v_law_crossed, _, ok_law_crossed t (d_law_mind base) F_law_crossed, He.glo_ok KX KN (c.fact 56 (f := .glo "_law_crossed") rfl), F_law_crossed.kp, F_law_crossed.bindsN fun _ _ _ _ _ _ us hl => match us, hl with | [_, _, _], _ => rfl⟩
  have d_Minds_minding : ∀ base : Heap, MDef P w K mg base (He.ga K "Minds") "minding" 1 3 (G_Minds_minding K) := fun base => ⟨_, v_Minds_minding, _, ok_Minds_minding t F_Minds_minding, He.meth_ok (c.fact 35 (f := .meth "Minds" "minding") rfl), F_Minds_minding.bindsN fun _ _ _ _ _ _ us hl => match us, hl with | [_, _, _], _ => rfl⟩
  have d_Same_shows : ∀ base : Heap, MDef P w K mg base (He.ga K "Same") "shows" 2 4 (G_Same_shows K) := fun base => ⟨_, v_Same_shows, _, ok_Same_shows t (d_Minds_minding base) F_Same_shows, He.meth_ok (c.fact 46 (f := .meth "Same" "shows") rfl), F_Same_shows.bindsN fun _ _ _ _ _ _ us hl => match us, hl with | [_, _, _, _], _ => rfl⟩
  have d_part_of : ∀ base : Heap, Def P w K mg base "part_of" 1 3 (G_part_of K) := fun base => ⟨_, v_part_of, _, ok_part_of t F_part_of, He.glo_ok KX KN (c.fact 38 (f := .glo "part_of") rfl), F_part_of.kp, F_part_of.bindsN fun _ _ _ _ _ _ us hl => match us, hl with | [_, _, _], _ => rfl⟩
  have d_Minds_is_kind : ∀ base : Heap, MDef P w K mg base (He.ga K "Minds") "is_kind" 2 2 (G_Minds_is_kind K) := fun base => ⟨_, v_Minds_is_kind, _, ok_Minds_is_kind t (d_is_number base) F_Minds_is_kind, He.meth_ok (c.fact 36 (f := .meth "Minds" "is_kind") rfl), F_Minds_is_kind.bindsN fun _ _ _ _ _ _ us hl => match us, hl with | [_, _], _ => rfl⟩
  have d_are_kinds : ∀ base : Heap, Def P w K mg base "are_kinds" 3 2 (G_are_kinds K) := fun base => ⟨_, v_are_kinds, _, ok_are_kinds t (d_Minds_is_kind base) F_are_kinds, He.glo_ok KX KN (c.fact 44 (f := .glo "are_kinds") rfl), F_are_kinds.kp, F_are_kinds.bindsN fun _ _ _ _ _ _ us hl => match us, hl with | [_, _], _ => rfl⟩
  have d_parts : ∀ base : Heap, Def P w K mg base "parts" 4 5 (G_parts K) := fun base => ⟨_, v_parts, _, ok_parts t (d_Minds_minding base) (d_part_of base) (d_are_kinds base) F_parts, He.glo_ok KX KN (c.fact 47 (f := .glo "parts") rfl), F_parts.kp, F_parts.bindsN fun _ _ _ _ _ _ us hl => match us, hl with | [_, _, _, _, _], _ => rfl⟩
  have d_Unlike_shows : ∀ base : Heap, MDef P w K mg base (He.ga K "Unlike") "shows" 5 4 (G_Unlike_shows K) := fun base => ⟨_, v_Unlike_shows, _, ok_Unlike_shows t (d_parts base) F_Unlike_shows, He.meth_ok (c.fact 49 (f := .meth "Unlike" "shows") rfl), F_Unlike_shows.bindsN fun _ _ _ _ _ _ us hl => match us, hl with | [_, _, _, _], _ => rfl⟩
  have d_place_first : ∀ base : Heap, Def P w K mg base "place_first" 2 3 (G_place_first K) := fun base => ⟨_, v_place_first, _, ok_place_first t (d_Minds_minding base) F_place_first, He.glo_ok KX KN (c.fact 39 (f := .glo "place_first") rfl), F_place_first.kp, F_place_first.bindsN fun _ _ _ _ _ _ us hl => match us, hl with | [_, _, _], _ => rfl⟩
  have d_without : ∀ base : Heap, Def P w K mg base "without" 1 2 (G_without K) := fun base => ⟨_, v_without, _, ok_without t F_without, He.glo_ok KX KN (c.fact 40 (f := .glo "without") rfl), F_without.kp, F_without.bindsN fun _ _ _ _ _ _ us hl => match us, hl with | [_, _], _ => rfl⟩
  have d_led : ∀ base : Heap, Def P w K mg base "led" 3 3 (G_led K) := fun base => ⟨_, v_led, _, ok_led t (d_place_first base) (d_without base) F_led, He.glo_ok KX KN (c.fact 41 (f := .glo "led") rfl), F_led.kp, F_led.bindsN fun _ _ _ _ _ _ us hl => match us, hl with | [_, _, _], _ => rfl⟩
  have d_couples : ∀ base : Heap, Def P w K mg base "couples" 2 3 (G_couples K) := fun base => ⟨_, v_couples, _, ok_couples t (d_Minds_minding base) F_couples, He.glo_ok KX KN (c.fact 42 (f := .glo "couples") rfl), F_couples.kp, F_couples.bindsN fun _ _ _ _ _ _ us hl => match us, hl with | [_, _, _], _ => rfl⟩
  have d_unlike : ∀ base : Heap, Def P w K mg base "unlike" 3 3 (G_unlike K) := fun base => ⟨_, v_unlike, _, ok_unlike t (d_part_of base) (d_couples base) F_unlike, He.glo_ok KX KN (c.fact 43 (f := .glo "unlike") rfl), F_unlike.kp, F_unlike.bindsN fun _ _ _ _ _ _ us hl => match us, hl with | [_, _, _], _ => rfl⟩
  have d_Same_init : ∀ base : Heap, CDef P w K mg base (He.ga K "Same") "Same" 1 1 (G_Same_init K) := fun base => ⟨_, v_Same_init, _, ok_Same_init t F_Same_init, He.glo_ok KX KN (c.fact 24 (f := .glo "Same") rfl), He.mkr_ok (c.fact 45 (f := .mkr "Same") rfl), F_Same_init.bindsN fun _ _ _ _ _ _ us hl => match us, hl with | [_, _], _ => rfl⟩
  have d_Unlike_init : ∀ base : Heap, CDef P w K mg base (He.ga K "Unlike") "Unlike" 1 2 (G_Unlike_init K) := fun base => ⟨_, v_Unlike_init, _, ok_Unlike_init t F_Unlike_init, He.glo_ok KX KN (c.fact 27 (f := .glo "Unlike") rfl), He.mkr_ok (c.fact 48 (f := .mkr "Unlike") rfl), F_Unlike_init.bindsN fun _ _ _ _ _ _ us hl => match us, hl with | [_, _, _], _ => rfl⟩
  have d_check_row : ∀ base : Heap, Def P w K mg base "check_row" 3 2 (G_check_row K) := fun base => ⟨_, v_check_row, _, ok_check_row t (d_Minds_is_kind base) F_check_row, He.glo_ok KX KN (c.fact 37 (f := .glo "check_row") rfl), F_check_row.kp, F_check_row.bindsN fun _ _ _ _ _ _ us hl => match us, hl with | [_, _], _ => rfl⟩
  have d_check_two : ∀ base : Heap, Def P w K mg base "check_two" 4 3 (G_check_two K) := fun base => ⟨_, v_check_two, _, ok_check_two t (d_check_row base) F_check_two, He.glo_ok KX KN (c.fact 50 (f := .glo "check_two") rfl), F_check_two.kp, F_check_two.bindsN fun _ _ _ _ _ _ us hl => match us, hl with | [_, _, _], _ => rfl⟩
  have d_alike : ∀ base : Heap, Def P w K mg base "alike" 5 3 (G_alike K) := fun base => ⟨_, v_alike, _, ok_alike t (d_led base) (d_unlike base) (d_Same_init base) (d_Unlike_init base) (d_check_two base) F_alike, He.glo_ok KX KN (c.fact 51 (f := .glo "alike") rfl), F_alike.kp, F_alike.bindsN fun _ _ _ _ _ _ us hl => match us, hl with | [_, _, _], _ => rfl⟩
  have d_law_is_row : ∀ base : Heap, Def P w K mg base "_law_is_row" 1 2 (G_law_is_row K) := fun base => ⟨_, v_law_is_row, _, ok_law_is_row t F_law_is_row, He.glo_ok KX KN (c.fact 59 (f := .glo "_law_is_row") rfl), F_law_is_row.kp, F_law_is_row.bindsN fun _ _ _ _ _ _ us hl => match us, hl with | [_, _], _ => rfl⟩
  have d_law_same : ∀ base : Heap, Def P w K mg base "_law_same" 2 4 (G_law_same K) := fun base => ⟨_, v_law_same, _, ok_law_same t (d_law_mind base) (d_law_is_row base) F_law_same, He.glo_ok KX KN (c.fact 60 (f := .glo "_law_same") rfl), F_law_same.kp, F_law_same.bindsN fun _ _ _ _ _ _ us hl => match us, hl with | [_, _, _, _], _ => rfl⟩
  have d_law_part : ∀ base : Heap, Def P w K mg base "_law_part" 1 3 (G_law_part K) := fun base => ⟨_, v_law_part, _, ok_law_part t F_law_part, He.glo_ok KX KN (c.fact 57 (f := .glo "_law_part") rfl), F_law_part.kp, F_law_part.bindsN fun _ _ _ _ _ _ us hl => match us, hl with | [_, _, _], _ => rfl⟩
  have d_law_couple : ∀ base : Heap, Def P w K mg base "_law_couple" 1 4 (G_law_couple K) := fun base => ⟨_, v_law_couple, _, ok_law_couple t F_law_couple, He.glo_ok KX KN (c.fact 58 (f := .glo "_law_couple") rfl), F_law_couple.kp, F_law_couple.bindsN fun _ _ _ _ _ _ us hl => match us, hl with | [_, _, _, _], _ => rfl⟩
  have d_law_due : ∀ base : Heap, Def P w K mg base "_law_due" 2 5 (G_law_due K) := fun base => ⟨_, v_law_due, _, ok_law_due t (d_law_mind base) (d_law_part base) (d_law_couple base) F_law_due, He.glo_ok KX KN (c.fact 61 (f := .glo "_law_due") rfl), F_law_due.kp, F_law_due.bindsN fun _ _ _ _ _ _ us hl => match us, hl with | [_, _, _, _, _], _ => rfl⟩
  have d_law_right : ∀ base : Heap, Def P w K mg base "_law_right" 6 5 (G_law_right K) := fun base => ⟨_, v_law_right, _, ok_law_right t (d_Same_shows base) (d_Unlike_shows base) (d_alike base) (d_law_same base) (d_law_due base) F_law_right, He.glo_ok KX KN (c.fact 62 (f := .glo "_law_right") rfl), F_law_right.kp, F_law_right.bindsN fun _ _ _ _ _ _ us hl => match us, hl with | [_, _, _, _, _], _ => rfl⟩
  have e := hfa.symm.trans (He.glo_ok KX KN (c.fact 63 (f := .glo "law") rfl))
  cases e
  have b := FunD.bindsA (ps := ["_law_script"]) F_law fun _ _ _ _ _ _ us hl => match us, hl with | [_], _ => rfl
  exact ⟨v_law, fun s v => b s [v] rfl, fun base _ _ => ok_law t (d_Minds_init base) (d_law_minds base) (d_law_row base) (d_law_jostled base) (d_law_crossed base) (d_law_right base) F_law⟩
end J
open PySem PySem.W PySem.Calls PyProof.Rows
theorem PySem.Challenge.cw_jostle_k02_whole_alike_holds : PySem.Challenge.rw_jostle_k02_whole_alike.Holds := by
  w_on; o_law
  refine HandSHeadRun.head_any (r := OpenLaw.row PySem.Challenge.rw_jostle_k02_whole_alike) (q := view (OpenLaw.row PySem.Challenge.rw_jostle_k02_whole_alike).prog [47]) (H := J.hkD) (ob := J.obD) (M := 8000) (loose := J.namesD) (d := HandSHeadRun.topDef (OpenLaw.row PySem.Challenge.rw_jostle_k02_whole_alike).prog 47) (kwd := []) J.obD_eq
    (by kernel_rfl) (fun s => by kernel_rfl) J.runD (by kernel_rfl) (by kernel_rfl) (by kernel_rfl) (by rfl) (by first | assumption | decide +kernel) (by decide +kernel) ⟨rfl, rfl, rfl, rfl, rfl, by decide +kernel⟩ ?hw ?hc
  case hw => w_witness2
  case hc =>
    refine L2.walk_ofE (l := PySem.Challenge.rw_jostle_k02_whole_alike) (n := 63) (k := 7) (x := "_law_script") (CX := L2.CX0) rfl (by decide) (by kernel_rfl) ⟨rfl, by decide, by decide⟩ ?F (fun _ _ _ _ z => z)
    intro w mg fa h Y NS hmg0
    obtain ⟨K, KX, c⟩ := Y
    have hmg : mg ("law" : PySem.Str) = some (.ref fa) := by
      have e : (HandSHeadRun.topDef (OpenLaw.row PySem.Challenge.rw_jostle_k02_whole_alike).prog 47).name = ("law" : PySem.Str) := by kernel_rfl
      rw [← e]
      exact hmg0
    obtain ⟨fd, hb, hF⟩ := J.factsD (P := (PySem.Challenge.rw_jostle_k02_whole_alike).prog) (w := w) KX NS hmg c
    refine ⟨K, fd, J.spD K 1 (J.G_law K), KX, hb, fun H a ns hl _ hS => ⟨rfl, [.scr ns], fun d => d = .bl true, H, ⟨ns, rfl, hl, rfl⟩, L2.Same.refl _, .cons (.scr hS) .nil, fun v d G0 G hd _ r => ?_⟩, hF⟩
    subst hd
    exact J.res_bl r
