import PyProof.Rows.All
import Wide.All
import OpenK.AllK
import Wide.FinOn
import HandS.ForMost
import HandS.Exc
import HandS.TryOnly
import HandS.ExcOwn
import HandS.WordsExc
import HandS.Sort
import HandS.SortOrd
import HandS.SortRule
import HandS.Deep
import HandS.IsInst
import HandS.Style
import HandS.Wide
import HandS.TupLen
import HandS.EndBits
import KE.IntBitsLaws
import PyProof.Rows.SetFrom
import PyProof.Rows.RegSetDedup
import KE.SortData
import KE.KDictDisplayH
import PyProof.DictRoadsH
import HandS.CallRecv
import HandS.Lambda
import HandS.ExcIs
import HandS.EndTab
import HandS.CallLocal
import HandS.More
import KE.KNestM
import PySem.Challenge.RW_evenglasses_k06_whole_hard
set_option Elab.async false
set_option maxRecDepth 100000
set_option maxHeartbeats 4000000
/-! Rows, their evenings, the row behind one: plain Lean. -/
namespace EG
abbrev Pr := Int × Int
def goodP (ns : List Int) (i j : Nat) : Bool := !decide (ns.getD i 0 = ns.getD j 0) && decide ((ns.getD i 0 + ns.getD j 0) % 2 = 0)
/-- the pairs (i, j), j the first k places behind i -/
def evI (ns : List Int) (i k : Nat) : List Pr := ((List.range' (i + 1) k).filter (goodP ns i)).map fun (j : Nat) => ((i : Int), (j : Int))
def evN (ns : List Int) (m : Nat) : List Pr := (List.range m).flatMap fun i => evI ns i (ns.length - (i + 1))
def evs (ns : List Int) : List Pr := evN ns ns.length
/-- the same by the greater place -/
def cnO (ns : List Int) (j k : Nat) : List Pr := ((List.range k).filter fun i => goodP ns i j).map fun (i : Nat) => ((i : Int), (j : Int))
def cnN (ns : List Int) (m : Nat) : List Pr := (List.range m).flatMap fun j => cnO ns j j

theorem evI_succ (ns : List Int) (i k : Nat) : evI ns i (k + 1) = evI ns i k ++ if goodP ns i (i + 1 + k) = true then [((i : Int), ((i + 1 + k : Nat) : Int))] else [] := by
  unfold evI
  rw [List.range'_concat, List.filter_append, List.map_append]
  by_cases h : goodP ns i (i + 1 + 1 * k) = true
  · rw [show i + 1 + k = i + 1 + 1 * k by omega, if_pos h, List.filter_cons_of_pos h]; rfl
  · rw [show i + 1 + k = i + 1 + 1 * k by omega, if_neg h, List.filter_cons_of_neg h]; rfl
theorem evN_succ (ns : List Int) (m : Nat) : evN ns (m + 1) = evN ns m ++ evI ns m (ns.length - (m + 1)) := by
  unfold evN
  rw [List.range_succ, List.flatMap_append, List.flatMap_singleton]
theorem cnO_succ (ns : List Int) (j k : Nat) : cnO ns j (k + 1) = cnO ns j k ++ if goodP ns k j = true then [((k : Int), (j : Int))] else [] := by
  unfold cnO
  rw [List.range_succ, List.filter_append, List.map_append]
  by_cases h : goodP ns k j = true
  · rw [if_pos h, List.filter_cons_of_pos (p := fun i => goodP ns i j) h]; rfl
  · rw [if_neg h, List.filter_cons_of_neg (p := fun i => goodP ns i j) h]; rfl
theorem cnN_succ (ns : List Int) (m : Nat) : cnN ns (m + 1) = cnN ns m ++ cnO ns m m := by
  unfold cnN
  rw [List.range_succ, List.flatMap_append, List.flatMap_singleton]

/-- an evening that can be -/
def IsEv (ns : List Int) (p : Pr) : Prop := ∃ i j : Nat, p = ((i : Int), (j : Int)) ∧ i < j ∧ j < ns.length ∧ goodP ns i j = true
theorem mem_evs {ns : List Int} {p : Pr} : p ∈ evs ns ↔ IsEv ns p := by
  unfold evs evN evI IsEv
  simp only [List.mem_flatMap, List.mem_range, List.mem_map, List.mem_filter, List.mem_range'_1]
  constructor
  · rintro ⟨i, hi, j, ⟨⟨h1, h2⟩, hg⟩, rfl⟩
    exact ⟨i, j, rfl, by omega, by omega, hg⟩
  · rintro ⟨i, j, rfl, h1, h2, hg⟩
    exact ⟨i, by omega, j, ⟨⟨by omega, by omega⟩, hg⟩, rfl⟩
theorem mem_cn {ns : List Int} {p : Pr} : p ∈ cnN ns ns.length ↔ IsEv ns p := by
  unfold cnN cnO IsEv
  simp only [List.mem_flatMap, List.mem_range, List.mem_map, List.mem_filter]
  constructor
  · rintro ⟨j, hj, i, ⟨h1, hg⟩, rfl⟩
    exact ⟨i, j, rfl, h1, hj, hg⟩
  · rintro ⟨i, j, rfl, h1, h2, hg⟩
    exact ⟨j, h2, i, ⟨h1, hg⟩, rfl⟩
/-- the order of pairs -/
def ltPr (p q : Pr) : Prop := p.1 < q.1 ∨ (p.1 = q.1 ∧ p.2 < q.2)
theorem evI_sorted (ns : List Int) (i k : Nat) : (evI ns i k).Pairwise ltPr := by
  unfold evI
  rw [List.pairwise_map]
  refine List.Pairwise.filter _ ?_
  refine (List.pairwise_lt_range' (s := i + 1) (n := k)).imp ?_
  intro a b h
  exact .inr ⟨rfl, by show (a : Int) < (b : Int); omega⟩
theorem mem_evI {ns : List Int} {i k : Nat} {p : Pr} (h : p ∈ evI ns i k) : p.1 = (i : Int) := by
  unfold evI at h
  obtain ⟨j, _, rfl⟩ := List.mem_map.mp h
  rfl
theorem evN_sorted (ns : List Int) : ∀ m, (evN ns m).Pairwise ltPr
  | 0 => List.Pairwise.nil
  | m + 1 => by
    rw [evN_succ, List.pairwise_append]
    refine ⟨evN_sorted ns m, evI_sorted _ _ _, fun p hp q hq => ?_⟩
    unfold evN at hp
    obtain ⟨i, hi, hp⟩ := List.mem_flatMap.mp hp
    have h1 := mem_evI hp
    have h2 := mem_evI hq
    have h3 := List.mem_range.mp hi
    exact .inl (by rw [h1, h2]; omega)
theorem evs_sorted (ns : List Int) : (evs ns).Pairwise ltPr := evN_sorted ns _
theorem ltPr_irrefl (p : Pr) : ¬ ltPr p p := by rintro (h | h) <;> omega
theorem evs_nodup (ns : List Int) : (evs ns).Nodup := List.Pairwise.imp (R := ltPr) (fun {a b} h (e : a = b) => ltPr_irrefl a (by rw [← e] at h; exact h)) (evs_sorted ns)
theorem cnN_nodup (ns : List Int) : ∀ m, (cnN ns m).Nodup
  | 0 => List.nodup_nil
  | m + 1 => by
    rw [cnN_succ, List.nodup_append]
    refine ⟨cnN_nodup ns m, ?_, fun p hp q hq e => ?_⟩
    · unfold cnO
      refine List.Pairwise.map _ ?_ (List.Pairwise.filter _ List.nodup_range)
      intro a b h e
      exact h (by have := (Prod.mk.inj e).1; omega)
    · unfold cnN at hp
      obtain ⟨j, hj, hp⟩ := List.mem_flatMap.mp hp
      unfold cnO at hp hq
      obtain ⟨a, _, rfl⟩ := List.mem_map.mp hp
      obtain ⟨b, _, rfl⟩ := List.mem_map.mp hq
      have := List.mem_range.mp hj
      have := (Prod.mk.inj e).2
      omega
theorem cn_perm (ns : List Int) : (cnN ns ns.length).Perm (evs ns) :=
  (List.perm_ext_iff_of_nodup (cnN_nodup ns _) (evs_nodup ns)).mpr fun p => by rw [mem_cn, mem_evs]
/-- a sorted rearrangement of the evenings is their list -/
theorem evs_uniq {ns : List Int} {l : List Pr} (hp : l.Perm (cnN ns ns.length)) (hs : l.Pairwise fun p q => ¬ ltPr q p) : l = evs ns := by
  refine List.Perm.eq_of_pairwise (le := fun p q => ¬ ltPr q p) ?_ hs ?_ (hp.trans (cn_perm ns))
  · intro a b _ _ h1 h2
    unfold ltPr at h1 h2
    have e1 : a.1 = b.1 := by omega
    have e2 : a.2 = b.2 := by omega
    exact Prod.ext e1 e2
  · exact (evs_sorted ns).imp fun {a b} h h' => by
      unfold ltPr at h h'
      omega

/-- the row behind the evening of the places i, j -/
def half (ns : List Int) (i j : Nat) : Int := (ns.getD i 0 + ns.getD j 0) / 2
def beh (ns : List Int) (i j : Nat) : List Int := (List.range ns.length).map fun k => if k = i ∨ k = j then half ns i j else ns.getD k 0
theorem beh_length (ns : List Int) (i j : Nat) : (beh ns i j).length = ns.length := by unfold beh; rw [List.length_map, List.length_range]
theorem beh_get (ns : List Int) (i j k : Nat) (h : k < ns.length) : (beh ns i j)[k]? = some (if k = i ∨ k = j then half ns i j else ns.getD k 0) := by
  unfold beh
  rw [List.getElem?_map, List.getElem?_range h]; rfl
theorem beh_set (ns : List Int) (i j : Nat) : (ns.set i (half ns i j)).set j (half ns i j) = beh ns i j := by
  apply List.ext_getElem?
  intro k
  by_cases h : k < ns.length
  · rw [beh_get ns i j k h, List.getElem?_set, List.getElem?_set]
    have e : ns[k]? = some (ns.getD k 0) := by rw [List.getElem?_eq_getElem h, List.getD_eq_getElem?_getD, List.getElem?_eq_getElem h]; rfl
    rw [e]
    simp only [List.length_set, h]
    by_cases h1 : j = k
    · subst h1; simp [h]
    · by_cases h2 : i = k
      · subst h2
        simp [h1, h]
      · have h3 : ¬ k = i := fun z => h2 z.symm
        have h4 : ¬ k = j := fun z => h1 z.symm
        simp [h1, h2, h3, h4]
  · rw [List.getElem?_eq_none (by rw [List.length_set, List.length_set]; omega), List.getElem?_eq_none (by rw [beh_length]; omega)]
end EG

/-! The text by places: law_k06_whole_hard. -/
namespace EG
open PySem L2
def topS (i : Nat) : Stmt := PySem.Challenge.pw_evenglasses_k06_whole_hard.main.body.getD i (.Pass ⟨0, 0, 0, 0⟩)
abbrev s_GlassError : Stmt := topS 1
abbrev s_BadRow : Stmt := topS 2
abbrev s_BadEvening : Stmt := topS 3
abbrev s_is_whole : Stmt := topS 7
theorem sc_is_whole : FnScope ["thing"] ["thing"] (defScope s_is_whole) := ⟨rfl, rfl, rfl, by decide +kernel, rfl, by decide +kernel, by decide +kernel⟩
abbrev s_check_row : Stmt := topS 8
theorem sc_check_row : FnScope ["row", "most", "greatest", "one"] ["row", "most", "greatest"] (defScope s_check_row) := ⟨rfl, rfl, rfl, by decide +kernel, rfl, by decide +kernel, by decide +kernel⟩
abbrev s_evenings_of : Stmt := topS 9
theorem sc_evenings_of : FnScope ["row", "found", "one", "other"] ["row"] (defScope s_evenings_of) := ⟨rfl, rfl, rfl, by decide +kernel, rfl, by decide +kernel, by decide +kernel⟩
abbrev s_evenings : Stmt := topS 10
theorem sc_evenings : FnScope ["row"] ["row"] (defScope s_evenings) := ⟨rfl, rfl, rfl, by decide +kernel, rfl, by decide +kernel, by decide +kernel⟩
abbrev s_settled : Stmt := topS 11
theorem sc_settled : FnScope ["row"] ["row"] (defScope s_settled) := ⟨rfl, rfl, rfl, by decide +kernel, rfl, by decide +kernel, by decide +kernel⟩
abbrev s_behind : Stmt := topS 12
theorem sc_behind : FnScope ["row", "evening", "one", "other", "half", "place", "number"] ["row", "evening"] (defScope s_behind) := ⟨rfl, rfl, rfl, by decide +kernel, rfl, by decide +kernel, by decide +kernel⟩
abbrev s_check_evening : Stmt := topS 13
theorem sc_check_evening : FnScope ["row", "evening", "one"] ["row", "evening"] (defScope s_check_evening) := ⟨rfl, rfl, rfl, by decide +kernel, rfl, by decide +kernel, by decide +kernel⟩
abbrev s_evened : Stmt := topS 14
theorem sc_evened : FnScope ["row", "evening"] ["row", "evening"] (defScope s_evened) := ⟨rfl, rfl, rfl, by decide +kernel, rfl, by decide +kernel, by decide +kernel⟩
abbrev s_fall : Stmt := topS 15
theorem sc_fall : FnScope ["row", "evening", "apart"] ["row", "evening"] (defScope s_fall) := ⟨rfl, rfl, rfl, by decide +kernel, rfl, by decide +kernel, by decide +kernel⟩
abbrev s_Answer : Stmt := topS 17
abbrev s_row_behind : Stmt := topS 18
theorem sc_row_behind : FnScope ["row", "some", "evening"] ["row", "some"] (defScope s_row_behind) := ⟨rfl, rfl, rfl, by decide +kernel, rfl, by decide +kernel, by decide +kernel⟩
abbrev s_are_alike : Stmt := topS 19
theorem sc_are_alike : FnScope ["row"] ["row"] (defScope s_are_alike) := ⟨rfl, rfl, rfl, by decide +kernel, rfl, by decide +kernel, by decide +kernel⟩
abbrev s_way_to_alike : Stmt := topS 20
theorem sc_way_to_alike : FnScope ["row", "line", "met", "longer", "here", "gone", "evening", "there"] ["row"] (defScope s_way_to_alike) := ⟨rfl, rfl, rfl, by decide +kernel, rfl, by decide +kernel, by decide +kernel⟩
abbrev s_Alike : Stmt := topS 21
abbrev s_Alike_init : Stmt := inClass (topS 21) 0
theorem sc_Alike_init : FnScope ["self", "evenings"] ["self", "evenings"] (defScope s_Alike_init) := ⟨rfl, rfl, rfl, by decide +kernel, rfl, by decide +kernel, by decide +kernel⟩
abbrev s_Alike_shows : Stmt := inClass (topS 21) 1
theorem sc_Alike_shows : FnScope ["self", "row"] ["self", "row"] (defScope s_Alike_shows) := ⟨rfl, rfl, rfl, by decide +kernel, rfl, by decide +kernel, by decide +kernel⟩
abbrev s_Never : Stmt := topS 22
abbrev s_Never_shows : Stmt := inClass (topS 22) 0
theorem sc_Never_shows : FnScope ["self", "row"] ["self", "row"] (defScope s_Never_shows) := ⟨rfl, rfl, rfl, by decide +kernel, rfl, by decide +kernel, by decide +kernel⟩
abbrev s_alike : Stmt := topS 26
theorem sc_alike : FnScope ["row", "found"] ["row"] (defScope s_alike) := ⟨rfl, rfl, rfl, by decide +kernel, rfl, by decide +kernel, by decide +kernel⟩
abbrev s_bounds_of : Stmt := topS 27
theorem sc_bounds_of : FnScope ["row", "known", "spot", "some", "evening", "low", "high"] ["row", "known"] (defScope s_bounds_of) := ⟨rfl, rfl, rfl, by decide +kernel, rfl, by decide +kernel, by decide +kernel⟩
abbrev s_fewest_most : Stmt := topS 28
theorem sc_fewest_most : FnScope ["row"] ["row"] (defScope s_fewest_most) := ⟨rfl, rfl, rfl, by decide +kernel, rfl, by decide +kernel, by decide +kernel⟩
abbrev s_ends : Stmt := topS 29
theorem sc_ends : FnScope ["row", "found", "waiting", "met", "here", "some", "evening", "there"] ["row"] (defScope s_ends) := ⟨rfl, rfl, rfl, by decide +kernel, rfl, by decide +kernel, by decide +kernel⟩
abbrev s_l_cell_at : Stmt := topS 31
theorem sc_l_cell_at : FnScope ["_law_script", "_law_k"] ["_law_script", "_law_k"] (defScope s_l_cell_at) := ⟨rfl, rfl, rfl, by decide +kernel, rfl, by decide +kernel, by decide +kernel⟩
abbrev s_l_draw : Stmt := topS 32
theorem sc_l_draw : FnScope ["_law_cell", "_law_k", "_law_many", "_law_primes"] ["_law_cell", "_law_k", "_law_many"] (defScope s_l_draw) := ⟨rfl, rfl, rfl, by decide +kernel, rfl, by decide +kernel, by decide +kernel⟩
abbrev s_l_value : Stmt := topS 33
theorem sc_l_value : FnScope ["_law_cell", "_law_turn", "_law_mixed"] ["_law_cell", "_law_turn"] (defScope s_l_value) := ⟨rfl, rfl, rfl, by decide +kernel, rfl, by decide +kernel, by decide +kernel⟩
abbrev s_l_kinds : Stmt := topS 34
theorem sc_l_kinds : FnScope ["_law_ask", "_law_found", "error"] ["_law_ask"] (defScope s_l_kinds) := ⟨rfl, rfl, rfl, by decide +kernel, rfl, by decide +kernel, by decide +kernel⟩
abbrev s_l_made_into : Stmt := topS 35
theorem sc_l_made_into : FnScope ["_law_fields", "_law_due", "_law_shows", "_law_kept", "_law_some", "_law_good", "_law_said"] ["_law_fields", "_law_due", "_law_shows"] (defScope s_l_made_into) := ⟨rfl, rfl, rfl, by decide +kernel, rfl, by decide +kernel, by decide +kernel⟩
abbrev s_l_whole : Stmt := topS 36
theorem sc_l_whole : FnScope ["_law_number"] ["_law_number"] (defScope s_l_whole) := ⟨rfl, rfl, rfl, by decide +kernel, rfl, by decide +kernel, by decide +kernel⟩
abbrev s_l_wholes_right : Stmt := topS 37
theorem sc_l_wholes_right : FnScope ["_law_row", "_law_told", "_law_some", "_law_end", "_law_pair", "_law_found", "_law_number"] ["_law_row"] (defScope s_l_wholes_right) := ⟨rfl, rfl, rfl, by decide +kernel, rfl, by decide +kernel, by decide +kernel⟩
abbrev s_l_great_right : Stmt := topS 38
theorem sc_l_great_right : FnScope ["_law_row", "_law_more", "_law_great", "_law_down", "_law_found", "_law_other", "_law_turned", "_law_some", "_law_number", "_law_end", "_law_one"] ["_law_row", "_law_more"] (defScope s_l_great_right) := ⟨rfl, rfl, rfl, by decide +kernel, rfl, by decide +kernel, by decide +kernel⟩
abbrev s_l_twelve_right : Stmt := topS 39
theorem sc_l_twelve_right : FnScope ["_law_even", "_law_odd", "_law_marks", "_law_place", "_law_row", "_law_at", "_law_pair", "_law_ask", "_law_due", "_law_found", "_law_half"] ["_law_even", "_law_odd", "_law_marks", "_law_place"] (defScope s_l_twelve_right) := ⟨rfl, rfl, rfl, by decide +kernel, rfl, by decide +kernel, by decide +kernel⟩
abbrev s_l_fields_right : Stmt := topS 40
theorem sc_l_fields_right : FnScope ["_law_row", "_law_found", "_law_due", "_law_never", "_law_two", "_law_told", "_law_some"] [] (defScope s_l_fields_right) := ⟨rfl, rfl, rfl, by decide +kernel, rfl, by decide +kernel, by decide +kernel⟩
abbrev s_l_spoiled_right : Stmt := topS 41
theorem sc_l_spoiled_right : FnScope ["_law_place", "_law_at", "_law_row", "_law_bad", "_law_ask", "_law_five", "_law_pairs", "_law_pair", "_law_other", "_law_one"] ["_law_place", "_law_at"] (defScope s_l_spoiled_right) := ⟨rfl, rfl, rfl, by decide +kernel, rfl, by decide +kernel, by decide +kernel⟩
abbrev s_law : Stmt := topS 42
theorem sc_law : FnScope ["_law_script", "_law_value_here", "_law_row", "_law_at", "_law_even", "_law_odd", "_law_place"] ["_law_script"] (defScope s_law) := ⟨rfl, rfl, rfl, by decide +kernel, rfl, by decide +kernel, by decide +kernel⟩
end EG

/-! Rules of my own over the hand layer, and words about heaps. -/
namespace EG
open PySem PySem.Spec PyProof.Rows L2
section
variable {X : Cx}
/-- a product of ints of any size that the model bears -/
theorem op_mulB : OpR X (binaryOp .Mult) (rI IntMulOk fun i j => .int (i * j)) :=
  opI fun _ _ _ _ _ _ _ hc q => PyProof.Rows.mul_int q hc

/-- readings of len, list, tuple by K -/
abbrev rLenS (K : PySem.W.Frag) : List V → Hp → VK → Prop := fun xs H Q => ∃ p ys, xs = [.ref p] ∧ (SqL K H p ys ∨ SqT K H p ys) ∧ Q (.int ys.length) H
abbrev rListOf (K : PySem.W.Frag) : List V → Hp → VK → Prop := fun xs H Q => ∃ p ys, xs = [.ref p] ∧ (SqL K H p ys ∨ SqT K H p ys) ∧ ∀ l, H l = none → Q (.ref l) (upd H l (.lst ys))
abbrev rTupOf (K : PySem.W.Frag) : List V → Hp → VK → Prop := fun xs H Q => ∃ p ys, xs = [.ref p] ∧ ((SqL K H p ys ∧ ∀ l, H l = none → Q (.ref l) (upd H l (.tup ys))) ∨ (SqT K H p ys ∧ Q (.ref p) H))
/-! ### xs[::k]: some of its items -/
theorem vals_pick {xs : List V} {its : List Value} (r : Vals xs its) : ∀ idx : List Nat, Vals (idx.filterMap (xs[·]?)) (idx.filterMap (its.toArray[·]?))
  | [] => .nil
  | i :: idx => by
    have ih := vals_pick r idx
    cases e : xs[i]? with
    | none =>
      have e2 := r.none_of e
      rw [List.filterMap_cons_none e, List.filterMap_cons_none (by simpa using e2)]
      exact ih
    | some x =>
      obtain ⟨u, e2, ru⟩ := r.get e
      rw [List.filterMap_cons_some e, List.filterMap_cons_some (by simpa using e2)]
      exact .cons ru ih
def tStep (K : PySem.W.Frag) (te : TE) (ts : TO) : TE := fun σ H Q => te σ H fun x H1 => ts σ H1 fun o H2 =>
  ∃ (a : Addr) (xs : List V) (k : Int), x = .ref a ∧ o = some k ∧ k ≠ 0 ∧ SqL K H2 a xs ∧
    ∀ (p : Addr) (ys : List V), (∀ z ∈ ys, z ∈ xs) → ys.length ≤ xs.length → H2 p = none → Q (.ref p) (upd H2 p (.lst ys))
theorem pe_step {e st : Expr} {te : TE} {ts : TO} {p3 pos : Pos} (he : PE X e te) (hst : PO X (some st) ts) :
    PE X (.Subscript e (.Slice none none (some st) p3) pos) (tStep X.K te ts) := by
  refine ⟨fun pins s σ H Q I h => ?_⟩
  refine PyProof.Rows.Subscript_ (thn (he.run pins s σ H _ I h) fun v sA ⟨x, HA, IA, rA, qA⟩ => ?_)
  refine wpAny_Slice (thn (po_none.run pins sA σ HA (fun o Ho => o = none ∧ Ho = HA) IA ⟨rfl, rfl⟩) fun vl sB ⟨l, HB, IB, pl, el, eB⟩ => ?_)
  subst el eB
  refine thn (po_none.run pins sB σ HB (fun o Ho => o = none ∧ Ho = HB) IB ⟨rfl, rfl⟩) fun vu sC ⟨u, HC, IC, pu, eu, eC⟩ => ?_
  subst eu eC
  refine thn (hst.run pins sC σ HC _ IC qA) fun vs sD ⟨o, HD, ID, ps, qD⟩ => ?_
  obtain ⟨a, xs, k, ex, eo, k0, hx, q⟩ := qD
  subst ex eo
  cases rA
  have IE : Inv X pins σ HD { sD with heap := sD.heap.push { cls := .type "slice", data := .fields #[vl, vu, vs] } } := ID.kept (t' := sD.toks) fun b ob z => Heap.get?_push_of_some _ z
  obtain ⟨its, r, ht, hz⟩ := IE.list hx
  have hlen := r.length
  show wpAny (model X.prog X.w) X.A (subscriptTail e (.Slice none none (some st) p3) (.ref a) (.ref sD.heap.objs.size)) (EP X pins σ Q) X.xe { sD with heap := sD.heap.push { cls := .type "slice", data := .fields #[vl, vu, vs] } }
  refine tail_any (ops := [.ref a, .ref sD.heap.objs.size]) ht.isList.typeIs (PySem.slot_list_getitem.lookup) ?_ (by with_unfolding_all rfl)
  refine wpAny_getItem_list_slice ht.isList (Heap.IsSliceOf.new _ vl vu vs) pl pu ps (fun z => k0 (Option.some.inj z)) ?_ (by rw [List.size_toArray]; omega)
  have lenL := slicePick_size_le its.toArray none none (some k)
  obtain ⟨idx, ei⟩ : ∃ idx : List Nat, slicePick its.toArray none none (some k) = (idx.filterMap (its.toArray[·]?)).toArray := ⟨_, rfl⟩
  rw [ei] at lenL ⊢
  have rp := vals_pick r idx
  have lp := rp.length
  rw [List.size_toArray, List.size_toArray, ← lp, ← hlen] at lenL
  refine ⟨.ref _, _, IE.laid (t' := sD.toks) (o := .lst (idx.filterMap (xs[·]?))) (fun b ob z => Heap.get?_push_of_some _ z) (Nat.le_refl _) ?_, rfl, q _ _ (fun z hzm => ?_) lenL (IE.hok.fresh (Nat.le_refl _))⟩
  · exact ⟨by omega, _, 0, rp, Heap.get?_push_size _ rfl⟩
  · obtain ⟨i, _, e⟩ := List.mem_filterMap.mp hzm
    exact List.mem_of_getElem? e

/-! ### len(set(xs)), xs a list of ints -/
def dcount (ns : List Int) : Nat := (PyProof.Rows.firstMet (fun i => ns.getD i 0) ns.length).length
def tLenSetG (K : PySem.W.Frag) (ta : TE) : TE := fun σ H Q => ta σ H fun x H1 =>
  ∃ (l : Addr) (ns : List Int), x = .ref l ∧ SqL K H1 l (ns.map V.int) ∧ ns.length ≤ 4000 ∧ Q (.int (dcount ns : Nat)) H1
theorem pe_lenSetG {a : Expr} {ta : TE} {p p2 q pos : Pos} (hg : Gl X "len") (hm : X.mg "len" = none) (hg2 : Gl X "set") (hm2 : X.mg "set" = none) (ha : PE X a ta) (hc : X.calm = true := by rfl)
    (na : starEach [a] X.env = (false, eval a X.env) :: starEach [] X.env := by rfl) :
    PE X (.Call (.Name "len" p) [.Call (.Name "set" p2) [a] [] q] [] pos) (tLenSetG X.K ta) := by
  refine ⟨fun pins s σ H Q I h => ?_⟩
  refine PyProof.Rows.Call_ (ld_blt I hg hm boot_len (PyProof.Rows.callWith_builtin1 (PyProof.Rows.args_cons ?_ rfl) rfl rfl))
  refine PyProof.Rows.Call_ (ld_blt I hg2 hm2 PyProof.Rows.boot_set (PyProof.Rows.callWith_type1 ?_ na rfl))
  refine PyProof.Rows.args_cons (thn (ha.run pins s σ H _ I h) fun v sA ⟨x, HA, IA, rA, qA⟩ => PyProof.Rows.args_nil ?_) na
  obtain ⟨l, ns, rfl, hq, hl, qA⟩ := qA
  cases rA
  obtain ⟨its, r, pl, hz⟩ := IA.list hq
  have hlen : its.toArray.size = ns.length := by rw [List.size_toArray, ← r.length, List.length_map]
  refine call_set_list (IA.ok.hd hc) pl.isList (by simpa using intsAre_of r) (by rw [hlen]; unfold scanBound; omega) fun hB tk hS hk => ?_
  refine PyProof.Rows.args_nil ?_
  rw [hlen] at hS
  have dle : dcount ns ≤ ns.length := PyProof.Rows.firstMet_length_le _ _
  obtain ⟨o, es, ep, t, ho, hex, hd, _, _, _, hf, hn⟩ := hS
  have IB : Inv X pins σ HA { sA with heap := hB, toks := tk } := IA.kept fun b o e => hk b o (Heap.lt_size e) e
  have hn2 : es.size = dcount ns := hn
  exact call_len_set ho hex hd hf (by rw [hn2]; omega) ⟨.int (dcount ns : Nat), HA, IB.tok _, ⟨_, by rw [hn2]⟩, qA⟩
end

/-! ### a def of the text that keeps a promise, as its callers use it -/
def Cal (CX : CXT) (P : Program) (w : World) (K : PySem.W.Frag) (mg : Str → Option Value) (base : Heap) (x : Str) (ps : List Str) (k : Nat) (sp : Sp) : Prop :=
  ∃ (f : Addr) (fd : FuncData), FnOk P w K mg base CX k f fd ps sp ∧ mg x = some (.ref f) ∧ PySem.W.keepIn K (.ref f) = true ∧ Binds K fd ps []
section
variable {X : Cx} {x : Str} {ps : List Str} {j k : Nat} {sp : Sp} {e : Expr} {es : List Expr} {t : TA} {p pos : Pos}
theorem pe_calX {CX : CXT} {E : XK} (c : Cal CX X.prog X.w X.K X.mg X.base x ps j sp) (hr : Room k X.A) (hx : Passes CX X E) (hg : Gl X x) (ha : PA X (e :: es) t) (hj : j ≤ k := by decide) (hdb : (x == ("__debug__" : Str)) = false := by decide)
    (he : starEach (e :: es) X.env = (false, eval e X.env) :: starEach es X.env := by rfl) (hpl : (backTo pos (starEach es X.env)).any (·.1) = false := by rfl) :
    PE X (.Call (.Name x p) (e :: es) [] pos) (tCall sp [] E t) := by
  obtain ⟨f, fd, F, gf, kf, bf⟩ := c
  exact pe_call F (hr.mono hj) hg gf kf bf .nil hx ha hdb he hpl
theorem pe_cal (c : Cal CX0 X.prog X.w X.K X.mg X.base x ps j sp) (hr : Room k X.A) (hg : Gl X x) (ha : PA X (e :: es) t) (hj : j ≤ k := by decide) (hdb : (x == ("__debug__" : Str)) = false := by decide)
    (he : starEach (e :: es) X.env = (false, eval e X.env) :: starEach es X.env := by rfl) (hpl : (backTo pos (starEach es X.env)).any (·.1) = false := by rfl) :
    PE X (.Call (.Name x p) (e :: es) [] pos) (tCall sp [] E0 t) := pe_calX c hr pass0 hg ha hj hdb he hpl
end

/-! ### pairs of ints -/
def IsP (H : Hp) (v : V) (p : Pr) : Prop := ∃ t, v = .ref t ∧ H t = some (.tup [.int p.1, .int p.2])
abbrev Prs (H : Hp) : List V → List Pr → Prop := Paired (IsP H)
/-- the tuples stand as before -/
def TupS (H H' : Hp) : Prop := ∀ b xs, H b = some (.tup xs) → H' b = some (.tup xs)
theorem TupS.refl (H : Hp) : TupS H H := fun _ _ h => h
theorem TupS.trans {H H1 H2 : Hp} (a : TupS H H1) (b : TupS H1 H2) : TupS H H2 := fun c xs h => b c xs (a c xs h)
theorem Same.tups {H H' : Hp} (s : Same H H') : TupS H H' := fun b xs h => s b _ h
theorem same_new {H : Hp} {p : Addr} {o : HO} (h : H p = none) : Same H (upd H p o) := fun b x e => by
  rw [upd_ne (ne_of_none e h)]; exact e
theorem tups_lst {H : Hp} {p : Addr} {xs : List V} {o : HO} (h : H p = some (.lst xs)) : TupS H (upd H p o) := fun b ys e => by
  rw [upd_ne (ne_of e h (by intro z; cases z))]; exact e
theorem IsP.mono {H H' : Hp} (s : TupS H H') {v : V} {p : Pr} (h : IsP H v p) : IsP H' v p := by
  obtain ⟨t, e, h⟩ := h
  exact ⟨t, e, s t _ h⟩
theorem Prs.mono {H H' : Hp} (s : TupS H H') {vs : List V} {ps : List Pr} (h : Prs H vs ps) : Prs H' vs ps := Paired.mapP h fun _ _ q => q.mono s
theorem Prs.length {H : Hp} {vs : List V} {ps : List Pr} (h : Prs H vs ps) : vs.length = ps.length := Paired.length h
theorem prs_app {H : Hp} : ∀ {vs ws : List V} {ps qs : List Pr}, Prs H vs ps → Prs H ws qs → Prs H (vs ++ ws) (ps ++ qs)
  | _, _, _, _, .nil, h => h
  | _, _, _, _, .cons r t, h => .cons r (prs_app t h)
theorem prs_at {H : Hp} : ∀ {vs : List V} {ps : List Pr} {i : Nat} {v : V}, Prs H vs ps → vs[i]? = some v → ∃ p, ps[i]? = some p ∧ IsP H v p
  | _, _, _, _, .nil, e => by simp at e
  | _, _, 0, _, .cons r _, e => by simp at e; subst e; exact ⟨_, rfl, r⟩
  | _, _, i + 1, v, .cons _ t, e => by
    obtain ⟨p, h1, h2⟩ := prs_at (i := i) (v := v) t (by simpa using e)
    exact ⟨p, by simpa using h1, h2⟩
theorem prs_mem {H : Hp} {vs : List V} {ps : List Pr} {v : V} (h : Prs H vs ps) (hv : v ∈ vs) : ∃ p, p ∈ ps ∧ IsP H v p := by
  obtain ⟨i, e⟩ := List.mem_iff_getElem?.mp hv
  obtain ⟨p, h1, h2⟩ := prs_at h e
  exact ⟨p, List.mem_of_getElem? h1, h2⟩

/-! ### as data -/
def prD (p : Pr) : PyData := .tuple [.int p.1, .int p.2]
def prsD (ps : List Pr) : PyData := .list (ps.map prD)
def rowD (ns : List Int) : PyData := .list (ns.map PyData.int)
section
variable {K : PySem.W.Frag} {H : Hp}
theorem dp_pr {v : V} {p : Pr} (h : IsP H v p) : Dp K H v (prD p) := by
  obtain ⟨t, rfl, h⟩ := h
  exact .tup (SqT.of h) (.cons (.int _) (.cons (.int _) .nil))
theorem dp_prT {a : Addr} {p : Pr} (h : SqT K H a [.int p.1, .int p.2]) : Dp K H (.ref a) (prD p) := .tup h (.cons (.int _) (.cons (.int _) .nil))
theorem dpa_prs : ∀ {vs : List V} {ps : List Pr}, Prs H vs ps → DpAll K H vs (ps.map prD)
  | _, _, .nil => .nil
  | _, _, .cons r t => .cons (dp_pr r) (dpa_prs t)
theorem dp_prs {a : Addr} {vs : List V} {ps : List Pr} (h : SqL K H a vs) (r : Prs H vs ps) : Dp K H (.ref a) (prsD ps) := .lst h (dpa_prs r)
theorem dpa_ints : ∀ ns : List Int, DpAll K H (ns.map V.int) (ns.map PyData.int)
  | [] => .nil
  | n :: ns => .cons (.int n) (dpa_ints ns)
theorem dp_row {a : Addr} {ns : List Int} (h : SqL K H a (ns.map V.int)) : Dp K H (.ref a) (rowD ns) := .lst h (dpa_ints ns)
end
theorem eqv_pr (p q : Pr) : PyData.eqv (prD p) (prD q) = decide (p = q) := by
  obtain ⟨a, b⟩ := p
  obtain ⟨c, d⟩ := q
  simp only [prD, PyData.eqv, PyData.eqvAll, Prod.mk.injEq, Bool.and_true]
  rw [Bool.decide_and]
  rfl
theorem eqv_prs : ∀ ps qs : List Pr, PyData.eqv (prsD ps) (prsD qs) = decide (ps = qs)
  | [], [] => by simp [prsD, PyData.eqv, PyData.eqvAll]
  | [], _ :: _ => by simp [prsD, PyData.eqv, PyData.eqvAll]
  | _ :: _, [] => by simp [prsD, PyData.eqv, PyData.eqvAll]
  | p :: ps, q :: qs => by
    have ih := eqv_prs ps qs
    simp only [prsD, PyData.eqv] at ih
    simp only [prsD, PyData.eqv, PyData.eqvAll, List.map_cons, eqv_pr, ih, List.cons.injEq]
    rw [Bool.decide_and]
theorem eqv_row : ∀ ns ms : List Int, PyData.eqv (rowD ns) (rowD ms) = decide (ns = ms)
  | [], [] => by simp [rowD, PyData.eqv, PyData.eqvAll]
  | [], _ :: _ => by simp [rowD, PyData.eqv, PyData.eqvAll]
  | _ :: _, [] => by simp [rowD, PyData.eqv, PyData.eqvAll]
  | n :: ns, m :: ms => by
    have ih := eqv_row ns ms
    simp only [rowD, PyData.eqv] at ih
    simp only [rowD, PyData.eqv, PyData.eqvAll, List.map_cons, ih, List.cons.injEq]
    rw [Bool.decide_and]
    rfl
theorem depth_pr (p : Pr) : (prD p).depth = 1 := by simp [prD, PyData.depth, PyData.depthAll]
theorem lay_prs : ∀ ps : List Pr, PyData.canLayAll0 (ps.map prD) = true ∧ PyData.depthAll (ps.map prD) ≤ 1
  | [] => by simp [PyData.canLayAll0, PyData.depthAll]
  | p :: ps => by
    have ih := lay_prs ps
    have h := depth_pr p
    refine ⟨by simp [PyData.canLayAll0, ih.1, prD, PyData.canLay0], ?_⟩
    simp only [List.map_cons, PyData.depthAll]
    omega
theorem lay_ints : ∀ ns : List Int, PyData.canLayAll0 (ns.map PyData.int) = true ∧ PyData.depthAll (ns.map PyData.int) = 0
  | [] => by simp [PyData.canLayAll0, PyData.depthAll]
  | n :: ns => by
    have ih := lay_ints ns
    refine ⟨by simp [PyData.canLayAll0, ih.1, PyData.canLay0], ?_⟩
    simp only [List.map_cons, PyData.depthAll, PyData.depth, ih.2]
    decide
theorem shaped_pr (p : Pr) : SeqAt.shaped (prD p) = true := by
  unfold SeqAt.shaped
  rw [depth_pr, Bool.and_eq_true]
  exact ⟨by simp [prD, PyData.canLay0, PyData.canLayAll0], by decide⟩
theorem shaped_prs (ps : List Pr) : SeqAt.shaped (prsD ps) = true := by
  have h := lay_prs ps
  unfold SeqAt.shaped
  rw [Bool.and_eq_true]
  refine ⟨by simp only [prsD, PyData.canLay0]; exact h.1, decide_eq_true ?_⟩
  simp only [prsD, PyData.depth]
  omega
theorem shaped_row (ns : List Int) : SeqAt.shaped (rowD ns) = true := by
  have h := lay_ints ns
  unfold SeqAt.shaped
  rw [Bool.and_eq_true]
  refine ⟨by simp only [rowD, PyData.canLay0]; exact h.1, decide_eq_true ?_⟩
  simp only [rowD, PyData.depth]
  omega
theorem any_prs (p : Pr) (ps : List Pr) : ((ps.map prD).any fun z => PyData.eqv z (prD p)) = decide (p ∈ ps) := by
  induction ps with
  | nil => simp
  | cons q ps ih =>
    rw [List.map_cons, List.any_cons, ih, eqv_pr]
    by_cases h : q = p
    · subst h; simp
    · have h2 : ¬ p = q := fun z => h z.symm
      simp [h, h2]
end EG

/-! The program's own functions: what each answers. -/
namespace EG
open PySem L2
theorem itP {c A B : Prop} [Decidable c] (h : c) (x : A) : if c then A else B := by rw [if_pos h]; exact x
theorem itN {c A B : Prop} [Decidable c] (h : ¬ c) (x : B) : if c then A else B := by rw [if_neg h]; exact x
theorem room65 {k : Nat} {A : Around} (r : Room k A) : A.units + 65 < cLine := by have := r.un; omega
theorem dec_int (a b : Int) : decide (V.int a = V.int b) = decide (a = b) := by
  by_cases h : a = b
  · subst h; simp
  · have h2 : ¬ V.int a = V.int b := fun z => h (V.int.inj z)
    rw [decide_eq_false h, decide_eq_false h2]
/-- a list of ints that may be changed -/
def Lst (H : Hp) (a : Addr) (ns : List Int) : Prop := H a = some (.lst (ns.map V.int))
theorem Lst.sq {K : PySem.W.Frag} {H : Hp} {a : Addr} {ns : List Int} (h : Lst H a ns) : SqL K H a (ns.map V.int) := SqL.of h
theorem Lst.mono {H H' : Hp} {a : Addr} {ns : List Int} (s : Same H H') (h : Lst H a ns) : Lst H' a ns := s _ _ h
theorem row_get {ns : List Int} {i : Nat} (h : i < ns.length) : (ns.map V.int)[i]? = some (.int (ns.getD i 0)) := by
  rw [List.getElem?_map, List.getElem?_eq_getElem h, List.getD_eq_getElem?_getD, List.getElem?_eq_getElem h]; rfl
theorem row_item {ns : List Int} {i : Nat} {x : V} (h : (ns.map V.int)[i]? = some x) : ∃ n, x = .int n ∧ ns[i]? = some n := by
  rw [List.getElem?_map] at h
  cases e : ns[i]? with
  | none => rw [e] at h; cases h
  | some n => rw [e] at h; exact ⟨n, (Option.some.inj h).symm, rfl⟩
/-- is it a number -/
def Whole (K : PySem.W.Frag) (H : Hp) (x : V) (b : Bool) : Prop := ∃ (t : Value) (b1 b2 : Bool), TyX K H x t ∧ PySem.W.kitOne K t (.type "int") = some b1 ∧ (b1 = true → PySem.W.kitOne K t (.type "bool") = some b2) ∧ b = (b1 && !b2)
theorem whole_int {K : PySem.W.Frag} {H : Hp} (i : Int) : Whole K H (.int i) true := ⟨_, true, false, .base (.int i), kit_ty (by decide +kernel), fun _ => kit_ty (by decide +kernel), rfl⟩
def RowOk (ns : List Int) (m g : Int) : Prop := 1 ≤ ns.length ∧ (ns.length : Int) ≤ m ∧ ∀ x ∈ ns, 0 ≤ x ∧ x ≤ g
/-- the built-ins that the program names -/
structure Blt (mg : Str → Option Value) : Prop where
  isi : mg "isinstance" = none
  int : mg "int" = none
  bool : mg "bool" = none
  list : mg "list" = none
  len : mg "len" = none
  all : mg "all" = none
  range : mg "range" = none
  enum : mg "enumerate" = none
  tuple : mg "tuple" = none
  min : mg "min" = none
  max : mg "max" = none
  sorted : mg "sorted" = none
  sum : mg "sum" = none
  set : mg "set" = none
  any : mg "any" = none
theorem Same.seqT {K : PySem.W.Frag} {H H' : Hp} {a : Addr} {xs : List V} (e : Same H H') (h : SqT K H a xs) : SqT K H' a xs := by
  rcases h with (h | ⟨o, h⟩) | h
  · exact .inl (.inl (e _ _ h))
  · exact .inl (.inr ⟨o, e _ _ h⟩)
  · exact .inr h
theorem RowOk.len12 {ns : List Int} {g : Int} (h : RowOk ns 12 g) : ns.length ≤ 12 := by have := h.2.1; omega
theorem evI_len (ns : List Int) (i k : Nat) : (evI ns i k).length ≤ k := by
  unfold evI
  rw [List.length_map]
  exact Nat.le_trans (List.length_filter_le _ _) (by rw [List.length_range']; exact Nat.le_refl _)
theorem evN_len (ns : List Int) : ∀ m, (evN ns m).length ≤ m * ns.length
  | 0 => Nat.zero_le _
  | m + 1 => by
    have ih := evN_len ns m
    have h := evI_len ns m (ns.length - (m + 1))
    rw [evN_succ, List.length_append, Nat.succ_mul]
    omega
theorem evs_len {ns : List Int} (h : ns.length ≤ 12) : (evs ns).length ≤ 144 := Nat.le_trans (evN_len ns _) (Nat.le_trans (Nat.mul_le_mul h h) (by decide))
def behP (ns : List Int) (p : Pr) : List Int := beh ns p.1.toNat p.2.toNat
def fallP (ns : List Int) (p : Pr) : Int := (ns.getD p.1.toNat 0 - ns.getD p.2.toNat 0) * (ns.getD p.1.toNat 0 - ns.getD p.2.toNat 0) / 2
theorem RowOk.getD {ns : List Int} {m g : Int} (h : RowOk ns m g) {i : Nat} (hi : i < ns.length) : 0 ≤ ns.getD i 0 ∧ ns.getD i 0 ≤ g := by
  have e : ns.getD i 0 = ns[i] := by rw [List.getD_eq_getElem?_getD, List.getElem?_eq_getElem hi]; rfl
  rw [e]
  exact h.2.2 _ (List.getElem_mem hi)
end EG

/-! is_whole, check_row. -/
namespace EG
open PySem L2
section
variable {P : Program} {w : World} {K : PySem.W.Frag} {mg : Str → Option Value} {base : Heap}
/-! ### is_whole -/
def sp_is_whole (K : PySem.W.Frag) : Sp := fun vs H Q _ => ∃ (x : V) (b : Bool), vs = [x] ∧ Whole K H x b ∧ Q (.bl b) H
theorem ok_is_whole {f : Addr} {fd : FuncData} (F : Fun K "is_whole" "is_whole" s_is_whole f fd) (B : Blt mg) : FnOk P w K mg base CX0 1 f fd ["thing"] (sp_is_whole K) := by
  refine F.ok sc_is_whole (fun vs H Q E h => ?_) (fun cdv A outer s H vs Q E hr h => ?_)
  · obtain ⟨x, b, rfl, _⟩ := h
    rfl
  · obtain ⟨x, b, rfl, ⟨t, b1, b2, ht, h1, h2, rfl⟩, q⟩ := h
    refine ⟨_, pss_one (ps_ret (pe_and (pe_callB call_isi (by rfl) B.isi PyProof.Rows.boot_isinstance (pa_cons (pv 0) (pa_cons (pe_bltn (v := .ty "int") (by rfl) B.int PyProof.Rows.boot_int rfl) pa_nil)))
      (pe_one (pe_not (pe_callB call_isi (by rfl) B.isi PyProof.Rows.boot_isinstance (pa_cons (pv 0) (pa_cons (pe_bltn (v := .ty "bool") (by rfl) B.bool PyProof.Rows.boot_bool rfl) pa_nil))))))), ?_⟩
    refine ⟨x, rfl, _, _, _, _, b1, rfl, .ty _, ht, h1, b1, rfl, ?_⟩
    cases b1 with
    | false => exact iteF q
    | true => exact iteT ⟨x, rfl, _, _, _, _, b2, rfl, .ty _, ht, h2 rfl, b2, rfl, q⟩
/-! ### check_row, of a row -/
def sp_check_row : Sp := fun vs H Q _ => ∃ (a : Addr) (ns : List Int) (m g : Int), vs = [.ref a, .int m, .int g] ∧ Lst H a ns ∧ ns.length ≤ 900 ∧ RowOk ns m g ∧ ∀ H', Same H H' → Q .non H'
theorem ok_check_row {f : Addr} {fd : FuncData} (F : Fun K "check_row" "check_row" s_check_row f fd) (B : Blt mg) (cW : Cal CX0 P w K mg base "is_whole" ["thing"] 1 (sp_is_whole K)) :
    FnOk P w K mg base CX0 2 f fd ["row", "most", "greatest"] sp_check_row := by
  refine F.ok sc_check_row (fun vs H Q E h => ?_) (fun cdv A outer s H vs Q E hr h => ?_)
  · obtain ⟨a, ns, m, g, rfl, _⟩ := h
    rfl
  · obtain ⟨a, ns, m, g, rfl, hL, hl, ⟨h1, h2, h3⟩, q⟩ := h
    refine ⟨_, pss_cons (ps_if (PW.pt (pw_or (pt_not (pt_val (pe_callB call_isi (by rfl) B.isi PyProof.Rows.boot_isinstance (pa_cons (pv 0) (pa_cons (pe_bltn (v := .ty "list") (by rfl) B.list PyProof.Rows.boot_list rfl) pa_nil)))))
          (pw_or1 (pt_not (pt_chain op_le op_le pe_int (pe_callB call_len_seq (by rfl) B.len PySem.boot_len (pa_cons (pv 0) pa_nil)) (pv 1))))))
        (pss_one ps_never) pss_nil)
      (pss_one (ps_if (pt_not (pt_val (pe_callB (cr_all rfl) (by rfl) B.all PyProof.Rows.boot_all (pa_cons
          (pe_lc (own := [("one", 3)]) (g := gName 3) (tt := tYes) rfl sc_check_row.nd (pi_list (pv 0)) (blkOk_by (N := ["row", "most", "greatest", "one"]) (sc := defScope s_check_row) (by decide +kernel))
            (fun _ _ _ _ _ => pg_name (i := 3) sc_check_row.nd rfl (Or.inl rfl)) (fun _ _ _ _ _ => pts_nil)
            (fun _ _ _ _ _ => pe_and (pe_cal cW hr (by rfl) (pa_cons (pv 3) pa_nil)) (pe_one (pe_chain op_le op_le pe_int (pv 3) (pv 2))))) pa_nil))))
        (pss_one ps_never) pss_nil)), ?_⟩
    refine ⟨.ref a, rfl, _, _, _, _, true, rfl, .ty _, .base (.lst hL), kit_ty (by decide +kernel), true, rfl, iteF ?_⟩
    have e1 : decide ((1 : Int) ≤ ((ns.map V.int).length : Int)) = true := decide_eq_true (by rw [List.length_map]; omega)
    have e2 : decide (((ns.map V.int).length : Int) ≤ m) = true := decide_eq_true (by rw [List.length_map]; omega)
    refine ⟨.ref a, rfl, a, _, rfl, .inl hL.sq, _, _, rfl, rfl, _, rfl, itP e1 ⟨.int m, rfl, _, _, rfl, rfl, _, rfl, itN (by rw [e2]; decide) ?_⟩⟩
    -- the numbers
    refine ⟨.ref a, rfl, a, rfl, ⟨_, hL.sq⟩, fun D hD => lc_list (K := K) (a := a) (xs := ns.map V.int)
      (fun i H' => Same H H' ∧ H' D = some (.lst ((List.replicate i true).map V.bl))) ⟨same_new hD, upd_same⟩ (fun i H' _ h => (hL.mono h.1).sq) (fun i x H' hx h => ?_) (fun H' h => ?_)⟩
    · obtain ⟨n, rfl, hn⟩ := row_item hx
      have hil := (List.getElem?_eq_some_iff.mp hn).1
      obtain ⟨h5, h6⟩ := h3 n (List.mem_of_getElem? hn)
      refine ⟨rfl, iteT (B := True) ⟨.int n, rfl, _, true, rfl, whole_int n, true, rfl, iteT ⟨.int n, rfl, _, _, rfl, rfl, _, rfl, itP (decide_eq_true h5) ⟨.int g, rfl, _, _, rfl, rfl, ?_⟩⟩⟩⟩
      refine ⟨_, h.2, small1000 (by rw [List.length_map, List.length_replicate]; omega), ⟨fun b o e => ?_, ?_⟩⟩
      · rw [upd_ne (ne_of_none e hD)]
        exact h.1 b o e
      · have e6 : V.bl (decide (n ≤ g)) = V.bl true := by rw [decide_eq_true h6]
        rw [upd_same, List.replicate_succ', List.map_append]
        exact congrArg (fun z => some (HO.lst (_ ++ [z]))) e6
    · refine ⟨D, List.replicate ns.length true, rfl, SqL.of (by rw [h.2, List.length_map]), _, rfl, itN (by simp) (q H' h.1)⟩
end
end EG

/-! evenings_of, behind. -/
namespace EG
open PySem L2
section
variable {P : Program} {w : World} {K : PySem.W.Frag} {mg : Str → Option Value} {base : Heap}
/-! ### evenings_of -/
def sp_evenings_of (K : PySem.W.Frag) : Sp := fun vs H Q _ => ∃ (a : Addr) (ns : List Int), vs = [.ref a] ∧ SqL K H a (ns.map V.int) ∧ ns.length ≤ 12 ∧
  ∀ H' p ws, Same H H' → H p = none → H' p = some (.lst ws) → Prs H' ws (evs ns) → Q (.ref p) H'
theorem ok_evenings_of {f : Addr} {fd : FuncData} (F : Fun K "evenings_of" "evenings_of" s_evenings_of f fd) (B : Blt mg) : FnOk P w K mg base CX0 1 f fd ["row"] (sp_evenings_of K) := by
  refine F.ok sc_evenings_of (fun vs H Q E h => ?_) (fun cdv A outer s H vs Q E hr h => ?_)
  · obtain ⟨a, ns, rfl, _⟩ := h
    rfl
  · obtain ⟨a, ns, rfl, hS, hl, q⟩ := h
    refine ⟨_, pss_cons (ps_set (i := 1) sc_evenings_of.nd rfl (.inl rfl) (pe_lst pa_nil))
      (pss_cons (ps_for PassesOwn.never rfl (pi_range1 (by rfl) B.range (pa_cons (pe_callB call_len_seq (by rfl) B.len PySem.boot_len (pa_cons (pv 0) pa_nil)) pa_nil)) (pg_name (i := 2) sc_evenings_of.nd rfl (.inl rfl))
        (pss_one (ps_for PassesOwn.never rfl (pi_range2 (by rfl) B.range (pa_cons (pe_op op_add (pv 2) pe_int) (pa_cons (pe_callB call_len_seq (by rfl) B.len PySem.boot_len (pa_cons (pv 0) pa_nil)) pa_nil))) (pg_name (i := 3) sc_evenings_of.nd rfl (.inl rfl))
          (pss_one (ps_if (PW.pt (pw_and (pt_cmpR op_ne (pe_ix ix_list (pv 0) (pv 2) (fun _ _ => rfl)) (pe_ix ix_list (pv 0) (pv 3) (fun _ _ => rfl)) (nomark _))
              (pw_and1 (pt_cmpR op_eq (pe_op op_mod (pe_op op_add (pe_ix ix_list (pv 0) (pv 2) (fun _ _ => rfl)) (pe_ix ix_list (pv 0) (pv 3) (fun _ _ => rfl))) pe_int) pe_int (nomark _)))))
            (pss_one (ps_expr (pe_bm PySem.F.plainAttrs_list PySem.F.slot_list_append PySem.F.type_list_append mt_append (pv 1) (pa_cons (pe_tup (pa_cons (pv 2) (pa_cons (pv 3) pa_nil))) pa_nil))))
            pss_nil)))))
      (pss_one (ps_ret (pv 1)))), ?_⟩
    refine ⟨Nat.zero_le _, fun o ho => ?_⟩
    have s0 : Same H (upd H o (.lst [])) := same_new ho
    have en : (((ns.map V.int).length : Int)).toNat = ns.length := by rw [List.length_map]; omega
    refine ⟨.ref a, rfl, a, _, rfl, .inl (s0.seq hS), _, rfl, by rw [List.length_map]; omega, by rw [List.length_map]; omega, for_range
      (fun i σ H' => ∃ y2 y3 ws, σ = [some (.ref a), some (.ref o), y2, y3] ∧ Same H H' ∧ H' o = some (.lst ws) ∧ Prs H' ws (evN ns i))
      ⟨none, none, [], rfl, s0, upd_same, .nil⟩ (fun i σ H1 hi h => ?_) (fun σ H1 h => ?_)⟩
    · obtain ⟨y2, y3, ws, rfl, s1, h1, r1⟩ := h
      rw [en] at hi
      have ei : (((ns.map V.int).length : Int) - (0 + (i : Int) + 1)).toNat = ns.length - (i + 1) := by rw [List.length_map]; omega
      refine ⟨.int (0 + (i : Int)), rfl, _, _, rfl, rfl, .ref a, rfl, a, _, rfl, .inl (s1.seq hS), _, _, rfl, ⟨by omega, by omega, by rw [List.length_map]; omega, by rw [List.length_map]; omega⟩, for_range
        (fun k σ H' => ∃ y3 ws, σ = [some (.ref a), some (.ref o), some (.int (0 + (i : Int))), y3] ∧ Same H H' ∧ H' o = some (.lst ws) ∧ Prs H' ws (evN ns i ++ evI ns i k))
        ⟨y3, ws, rfl, s1, h1, by simpa [evI] using r1⟩ (fun k σ H2 hk h => ?_) (fun σ H2 h => ?_)⟩
      · obtain ⟨y4, ws, rfl, s2, h2, r2⟩ := h
        rw [ei] at hk
        have hA := s2.seq hS
        have hj : i + 1 + k < ns.length := by omega
        have g1 : atI (ns.map V.int) (0 + (i : Int)) = some (.int (ns.getD i 0)) := at_of (by omega) (row_get hi)
        have g2 : atI (ns.map V.int) (0 + (i : Int) + 1 + (k : Int)) = some (.int (ns.getD (i + 1 + k) 0)) := at_of (j := i + 1 + k) (by omega) (row_get hj)
        have hlen : ws.length < sizeLine := by
          rw [r2.length, List.length_append]
          have l1 := evN_len ns i
          have l2 := evI_len ns i k
          have l3 : i * ns.length ≤ 12 * 12 := Nat.mul_le_mul (by omega) (by omega)
          exact small1000 (by omega)
        refine ⟨.ref a, rfl, .int (0 + (i : Int)), rfl, a, _, _, _, rfl, rfl, hA, g1, .ref a, rfl, .int (0 + (i : Int) + 1 + (k : Int)), rfl, a, _, _, _, rfl, rfl, hA, g2, rfl, _, rfl, ?_⟩
        rw [dec_int]
        by_cases c1 : ns.getD i 0 = ns.getD (i + 1 + k) 0
        · refine itN (by rw [decide_eq_true c1]; decide) (iteF ?_)
          refine ⟨_, ws, rfl, s2, h2, ?_⟩
          rw [evI_succ, if_neg (by unfold goodP; rw [decide_eq_true c1]; simp), List.append_nil]
          exact r2
        · refine itP (by rw [decide_eq_false c1]; rfl) ?_
          refine ⟨.ref a, rfl, .int (0 + (i : Int)), rfl, a, _, _, _, rfl, rfl, hA, g1, .ref a, rfl, .int (0 + (i : Int) + 1 + (k : Int)), rfl, a, _, _, _, rfl, rfl, hA, g2, _, _, rfl, rfl, _, _, rfl, rfl, (by show (0 : Int) < 2; decide), rfl, _, rfl, ?_⟩
          rw [dec_int]
          by_cases c2 : (ns.getD i 0 + ns.getD (i + 1 + k) 0) % 2 = 0
          · refine itP (decide_eq_true c2) ?_
            refine ⟨.ref o, rfl, .inl ⟨rfl, _, SqL.of h2⟩, .int (0 + (i : Int)), rfl, .int (0 + (i : Int) + 1 + (k : Int)), rfl, (by show 2 ≤ sizeLine; decide), fun t ht => ?_⟩
            have st : Same H2 (upd H2 t (.tup [.int (0 + (i : Int)), .int (0 + (i : Int) + 1 + (k : Int))])) := same_new ht
            refine ⟨o, ws, _, rfl, rfl, st _ _ h2, hlen, ?_⟩
            have sT : TupS H2 (upd (upd H2 t (.tup [.int (0 + (i : Int)), .int (0 + (i : Int) + 1 + (k : Int))])) o (.lst (ws ++ [.ref t]))) := (Same.tups st).trans (tups_lst (st _ _ h2))
            refine ⟨_, _, rfl, fun b x e => ?_, upd_same, ?_⟩
            · rw [upd_ne (ne_of_none e ho)]
              exact st _ _ (s2 _ _ e)
            · rw [evI_succ, if_pos (by unfold goodP; rw [decide_eq_false c1, decide_eq_true c2]; rfl), ← List.append_assoc]
              refine prs_app (r2.mono sT) (.cons ⟨t, rfl, ?_⟩ .nil)
              have nt : t ≠ o := (ne_of_none h2 ht).symm
              rw [upd_ne nt, upd_same, show (0 : Int) + (i : Int) = ((i : Nat) : Int) by omega, show ((i : Nat) : Int) + 1 + (k : Int) = ((i + 1 + k : Nat) : Int) by omega]
          · refine itN (by rw [decide_eq_false c2]; decide) ?_
            refine ⟨_, ws, rfl, s2, h2, ?_⟩
            rw [evI_succ, if_neg (by unfold goodP; rw [decide_eq_false c2]; simp), List.append_nil]
            exact r2
      · obtain ⟨y4, ws, rfl, s2, h2, r2⟩ := h
        rw [ei] at r2
        exact ⟨_, _, ws, rfl, s2, h2, by rw [evN_succ]; exact r2⟩
    · obtain ⟨y2, y3, ws, rfl, s1, h1, r1⟩ := h
      rw [en] at r1
      exact ⟨.ref o, rfl, q H1 o ws s1 ho h1 r1⟩
/-! ### behind -/
def sp_behind (K : PySem.W.Frag) : Sp := fun vs H Q _ => ∃ (a e : Addr) (ns : List Int) (i j : Nat), vs = [.ref a, .ref e] ∧ SqL K H a (ns.map V.int) ∧ SqT K H e [.int (i : Int), .int (j : Int)] ∧ i < ns.length ∧ j < ns.length ∧ ns.length ≤ 12 ∧
  ∀ H' p, Same H H' → H p = none → Lst H' p (beh ns i j) → Q (.ref p) H'
theorem ok_behind {f : Addr} {fd : FuncData} (F : Fun K "behind" "behind" s_behind f fd) (B : Blt mg) : FnOk P w K mg base CX0 1 f fd ["row", "evening"] (sp_behind K) := by
  refine F.ok sc_behind (fun vs H Q E h => ?_) (fun cdv A outer s H vs Q E hr h => ?_)
  · obtain ⟨a, e, ns, i, j, rfl, _⟩ := h
    rfl
  · obtain ⟨a, e, ns, i, j, rfl, hS, hT, hi, hj, hl, q⟩ := h
    refine ⟨_, pss_cons (ps_asg (pv 1) (pg_tup rfl (pgs_cons (pg_name (i := 2) sc_behind.nd rfl (.inr rfl)) (pgs_cons (pg_name (i := 3) sc_behind.nd rfl (.inr rfl)) pgs_nil))))
      (pss_cons (ps_set (i := 4) sc_behind.nd rfl (.inr rfl) (pe_op op_fdiv (pe_op op_add (pe_ix ix_list (pv 0) (pv 2) (fun _ _ => rfl)) (pe_ix ix_list (pv 0) (pv 3) (fun _ _ => rfl))) pe_int))
      (pss_one (ps_ret (pe_lc (own := [("place", 5), ("number", 6)]) (g := gTup K 2 (gCons (gName 5) (gCons (gName 6) gNil))) (tt := tYes) rfl sc_behind.nd (pi_enum (by rfl) B.enum (pa_cons (pv 0) pa_nil)) (blkOk_by (N := ["row", "evening", "one", "other", "half", "place", "number"]) (sc := defScope s_behind) (by decide +kernel))
        (fun _ _ _ _ _ => pg_tup rfl (pgs_cons (pg_name (i := 5) sc_behind.nd rfl (.inl rfl)) (pgs_cons (pg_name (i := 6) sc_behind.nd rfl (.inl rfl)) pgs_nil))) (fun _ _ _ _ _ => pts_nil)
        (fun _ _ _ _ _ => pe_ifExp (pt_cmpR (r := rIn K false) op_in_seq (pv 5) (pe_tup (pa_cons (pv 2) (pa_cons (pv 3) pa_nil))) (by rfl)) (pv 4) (pv 6)))))), ?_⟩
    have g1 : atI (ns.map V.int) (i : Int) = some (.int (ns.getD i 0)) := atI_nat (row_get hi)
    have g2 : atI (ns.map V.int) (j : Int) = some (.int (ns.getD j 0)) := atI_nat (row_get hj)
    refine ⟨.ref e, rfl, e, _, rfl, hT, rfl, _, _, rfl, _, _, rfl, rfl, ?_⟩
    refine ⟨.ref a, rfl, .int (i : Int), rfl, a, _, _, _, rfl, rfl, hS, g1, .ref a, rfl, .int (j : Int), rfl, a, _, _, _, rfl, rfl, hS, g2, _, _, rfl, rfl, _, _, rfl, rfl, ⟨by decide, by decide⟩, ?_⟩
    refine ⟨.ref a, rfl, a, _, rfl, hS, fun D hD => ?_⟩
    have s0 : Same H (upd H D (.lst [])) := same_new hD
    refine ⟨fun k m H' => k + m = ns.length ∧ Same H H' ∧ H' D = some (.lst (((beh ns i j).take k).map V.int)), ⟨ns.length, by omega, s0, upd_same⟩, fun k m H1 h => ?_⟩
    obtain ⟨hk, s1, h1⟩ := h
    by_cases hlt : k < ns.length
    · refine .inr ⟨⟨_, _, s1.seq hS, row_get hlt⟩, fun H' => Same H H' ∧ H' D = some (.lst (((beh ns i j).take (k + 1)).map V.int)), fun H' h => ⟨m - 1, by omega, by omega, h.1, h.2⟩, fun x H' hy => ?_⟩
      obtain ⟨T, y, rfl, nT, rfl, fy⟩ := hy
      have ey : y = .int (ns.getD k 0) := Option.some.inj ((fy _ (s1.seq hS)).symm.trans (row_get hlt))
      subst ey
      have s2 : Same H1 (upd H1 T (.tup [.int (k : Nat), .int (ns.getD k 0)])) := same_new nT
      refine ⟨T, _, rfl, SqT.of upd_same, rfl, _, _, rfl, _, _, rfl, rfl, rfl, iteT (B := True) ?_⟩
      refine ⟨.int (k : Nat), rfl, .int (i : Int), rfl, .int (j : Int), rfl, (by show 2 ≤ sizeLine; decide), fun t ht => ?_⟩
      have s3 : Same (upd H1 T (.tup [.int (k : Nat), .int (ns.getD k 0)])) (upd (upd H1 T (.tup [.int (k : Nat), .int (ns.getD k 0)])) t (.tup [.int (i : Int), .int (j : Int)])) := same_new ht
      have s4 := (s1.trans s2).trans s3
      have hD4 := (s2.trans s3) _ _ h1
      have lenD : (((beh ns i j).take k).map V.int).length < sizeLine := by
        rw [List.length_map, List.length_take, beh_length]
        exact small1000 (by omega)
      have eg := beh_get ns i j k hlt
      have fin : ∀ z : V, z = .int (if k = i ∨ k = j then half ns i j else ns.getD k 0) → Same H (upd (upd (upd H1 T (.tup [.int (k : Nat), .int (ns.getD k 0)])) t (.tup [.int (i : Int), .int (j : Int)])) D (.lst (((beh ns i j).take k).map V.int ++ [z]))) ∧
          (upd (upd (upd H1 T (.tup [.int (k : Nat), .int (ns.getD k 0)])) t (.tup [.int (i : Int), .int (j : Int)])) D (.lst (((beh ns i j).take k).map V.int ++ [z]))) D = some (.lst (((beh ns i j).take (k + 1)).map V.int)) := fun z ez => by
        refine ⟨fun b o e => ?_, ?_⟩
        · rw [upd_ne (ne_of_none e hD)]
          exact s4 _ _ e
        · rw [upd_same, List.take_add_one, eg, List.map_append, ez]
          rfl
      refine ⟨t, _, rfl, .inr (SqT.of upd_same), rfl, rfl, _, rfl, ?_⟩
      have ein : (if false = true then !inV (V.int (k : Nat)) [V.int (i : Int), V.int (j : Int)] else inV (V.int (k : Nat)) [V.int (i : Int), V.int (j : Int)]) = decide (k = i ∨ k = j) := by
        rw [if_neg Bool.false_ne_true]
        unfold inV eqV
        simp only [List.any_cons, List.any_nil, Bool.or_false]
        by_cases c1 : k = i
        · subst c1; simp
        · by_cases c2 : k = j
          · subst c2; simp
          · have q1 : ((i : Int) == ((k : Nat) : Int)) = false := beq_eq_false_iff_ne.mpr (by omega)
            have q2 : ((j : Int) == ((k : Nat) : Int)) = false := beq_eq_false_iff_ne.mpr (by omega)
            rw [q1, q2]; simp [c1, c2]
      rw [ein]
      by_cases c : k = i ∨ k = j
      · refine itP (decide_eq_true c) ⟨_, rfl, _, hD4, lenD, fin _ ?_⟩
        rw [if_pos c]
        rfl
      · refine itN (by rw [decide_eq_false c]; decide) ⟨_, rfl, _, hD4, lenD, fin _ ?_⟩
        rw [if_neg c]
    · refine .inl ⟨⟨_, s1.seq hS, by rw [List.length_map]; omega⟩, ?_⟩
      rw [List.take_of_length_le (by rw [beh_length]; omega)] at h1
      exact q H1 D s1 hD h1
end
end EG

/-! evenings, settled. -/
namespace EG
open PySem L2
section
variable {P : Program} {w : World} {K : PySem.W.Frag} {mg : Str → Option Value} {base : Heap}
/-! ### evenings, settled -/
def sp_evenings : Sp := fun vs H Q _ => ∃ (a : Addr) (ns : List Int), vs = [.ref a] ∧ Lst H a ns ∧ RowOk ns 12 1000000 ∧
  ∀ H' p ws, Same H H' → H p = none → H' p = some (.lst ws) → Prs H' ws (evs ns) → Q (.ref p) H'
theorem ok_evenings {f : Addr} {fd : FuncData} {t1 t2 : Tok} (F : Fun K "evenings" "evenings" s_evenings f fd) (cC : Cal CX0 P w K mg base "check_row" ["row", "most", "greatest"] 2 sp_check_row)
    (cE : Cal CX0 P w K mg base "evenings_of" ["row"] 1 (sp_evenings_of K)) (g1 : mg "MOST" = some (.int 12 t1)) (g2 : mg "GREATEST" = some (.int 1000000 t2)) : FnOk P w K mg base CX0 3 f fd ["row"] sp_evenings := by
  refine F.ok sc_evenings (fun vs H Q E h => ?_) (fun cdv A outer s H vs Q E hr h => ?_)
  · obtain ⟨a, ns, rfl, _⟩ := h
    rfl
  · obtain ⟨a, ns, rfl, hL, ok, q⟩ := h
    refine ⟨_, pss_cons (ps_expr (pe_cal cC hr (by rfl) (pa_cons (pv 0) (pa_cons (pe_glob (v := .int 12) (by rfl) g1 ⟨_, rfl⟩) (pa_cons (pe_glob (v := .int 1000000) (by rfl) g2 ⟨_, rfl⟩) pa_nil)))))
      (pss_one (ps_ret (pe_cal cE hr (by rfl) (pa_cons (pv 0) pa_nil)))), ?_⟩
    have l12 := ok.len12
    refine ⟨.ref a, rfl, a, ns, 12, 1000000, rfl, hL, by omega, ok, fun H1 s1 => ?_⟩
    exact ⟨.ref a, rfl, a, ns, rfl, (hL.mono s1).sq, l12, fun H2 p ws s2 hp e r => q H2 p ws (s1.trans s2) (s1.free hp) e r⟩
def sp_settled : Sp := fun vs H Q _ => ∃ (a : Addr) (ns : List Int), vs = [.ref a] ∧ Lst H a ns ∧ RowOk ns 12 1000000 ∧
  ∀ H', Same H H' → Q (.bl (decide (evs ns = []))) H'
theorem ok_settled {f : Addr} {fd : FuncData} {t1 t2 : Tok} (F : Fun K "settled" "settled" s_settled f fd) (cC : Cal CX0 P w K mg base "check_row" ["row", "most", "greatest"] 2 sp_check_row)
    (cE : Cal CX0 P w K mg base "evenings_of" ["row"] 1 (sp_evenings_of K)) (g1 : mg "MOST" = some (.int 12 t1)) (g2 : mg "GREATEST" = some (.int 1000000 t2)) : FnOk P w K mg base CX0 3 f fd ["row"] sp_settled := by
  refine F.ok sc_settled (fun vs H Q E h => ?_) (fun cdv A outer s H vs Q E hr h => ?_)
  · obtain ⟨a, ns, rfl, _⟩ := h
    rfl
  · obtain ⟨a, ns, rfl, hL, ok, q⟩ := h
    refine ⟨_, pss_cons (ps_expr (pe_cal cC hr (by rfl) (pa_cons (pv 0) (pa_cons (pe_glob (v := .int 12) (by rfl) g1 ⟨_, rfl⟩) (pa_cons (pe_glob (v := .int 1000000) (by rfl) g2 ⟨_, rfl⟩) pa_nil)))))
      (pss_one (ps_ret (pe_cmpR (op_eqD hr.units) (pe_cal cE hr (by rfl) (pa_cons (pv 0) pa_nil)) (pe_lst pa_nil) (nomark _)))), ?_⟩
    have l12 := ok.len12
    refine ⟨.ref a, rfl, a, ns, 12, 1000000, rfl, hL, by omega, ok, fun H1 s1 => ?_⟩
    refine ⟨.ref a, rfl, a, ns, rfl, (hL.mono s1).sq, l12, fun H2 p ws s2 hp e r => ?_⟩
    refine ⟨Nat.zero_le _, fun z hz => ?_⟩
    have s3 : Same H2 (upd H2 z (.lst [])) := same_new hz
    refine ⟨prsD (evs ns), prsD [], dp_prs (SqL.of (s3 _ _ e)) (r.mono (Same.tups s3)), dp_prs (SqL.of upd_same) .nil, shaped_prs _, shaped_prs _, ?_⟩
    rw [eqv_prs]
    exact q _ ((s1.trans s2).trans s3)
end
end EG

/-! check_evening, evened, fall: of an evening that can be. -/
namespace EG
open PySem L2
section
variable {P : Program} {w : World} {K : PySem.W.Frag} {mg : Str → Option Value} {base : Heap}
theorem tup_list {H : Hp} {e : Addr} {xs : List V} (h : H e = some (.tup xs)) {K : PySem.W.Frag} : SqT K H e xs := SqT.of h
def sp_check_evening : Sp := fun vs H Q _ => ∃ (a e : Addr) (ns : List Int) (p : Pr), vs = [.ref a, .ref e] ∧ Lst H a ns ∧ RowOk ns 12 1000000 ∧ H e = some (.tup [.int p.1, .int p.2]) ∧ p ∈ evs ns ∧ ∀ H', Same H H' → Q .non H'
theorem ok_check_evening {f : Addr} {fd : FuncData} {t1 t2 : Tok} (F : Fun K "check_evening" "check_evening" s_check_evening f fd) (B : Blt mg) (cW : Cal CX0 P w K mg base "is_whole" ["thing"] 1 (sp_is_whole K))
    (cC : Cal CX0 P w K mg base "check_row" ["row", "most", "greatest"] 2 sp_check_row)
    (cE : Cal CX0 P w K mg base "evenings_of" ["row"] 1 (sp_evenings_of K)) (g1 : mg "MOST" = some (.int 12 t1)) (g2 : mg "GREATEST" = some (.int 1000000 t2)) : FnOk P w K mg base CX0 3 f fd ["row", "evening"] sp_check_evening := by
  refine F.ok sc_check_evening (fun vs H Q E h => ?_) (fun cdv A outer s H vs Q E hr h => ?_)
  · obtain ⟨a, e, ns, p, rfl, _⟩ := h
    rfl
  · obtain ⟨a, e, ns, p, rfl, hL, ok, hT, hp, q⟩ := h
    refine ⟨_, pss_cons (ps_expr (pe_cal cC hr (by rfl) (pa_cons (pv 0) (pa_cons (pe_glob (v := .int 12) (by rfl) g1 ⟨_, rfl⟩) (pa_cons (pe_glob (v := .int 1000000) (by rfl) g2 ⟨_, rfl⟩) pa_nil)))))
      (pss_cons (ps_if (PW.pt (pw_or (pt_not (pt_val (pe_callB call_isi (by rfl) B.isi PyProof.Rows.boot_isinstance (pa_cons (pv 1) (pa_cons (pe_bltn (v := .ty "tuple") (by rfl) B.tuple PyProof.Rows.boot_tuple rfl) pa_nil)))))
          (pw_or (pt_cmpR op_ne (pe_callB call_len_seq (by rfl) B.len PySem.boot_len (pa_cons (pv 1) pa_nil)) pe_int (nomark _))
          (pw_or1 (pt_not (pt_val (pe_callB (cr_all rfl) (by rfl) B.all PyProof.Rows.boot_all (pa_cons
            (pe_lc (own := [("one", 2)]) (g := gName 2) (tt := tYes) rfl sc_check_evening.nd (pi_tup (pv 1)) (blkOk_by (N := ["row", "evening", "one"]) (sc := defScope s_check_evening) (by decide +kernel))
              (fun _ _ _ _ _ => pg_name (i := 2) sc_check_evening.nd rfl (Or.inl rfl)) (fun _ _ _ _ _ => pts_nil)
              (fun _ _ _ _ _ => pe_cal cW hr (by rfl) (pa_cons (pv 2) pa_nil))) pa_nil))))))))
        (pss_one ps_never) pss_nil)
      (pss_one (ps_if (pt_cmpR (op_notInD (room65 hr)) (pv 1) (pe_cal cE hr (by rfl) (pa_cons (pv 0) pa_nil)) (by rfl))
        (pss_one ps_never) pss_nil))), ?_⟩
    have l12 := ok.len12
    refine ⟨.ref a, rfl, a, ns, 12, 1000000, rfl, hL, by omega, ok, fun H1 s1 => ?_⟩
    have hT1 := s1 _ _ hT
    refine ⟨.ref e, rfl, _, _, _, _, true, rfl, .ty _, .base (.tup hT1), kit_ty (by decide +kernel), true, rfl, iteF ?_⟩
    refine ⟨.ref e, rfl, e, _, rfl, .inr (SqT.of hT1), rfl, _, rfl, iteNS rfl ?_⟩
    refine ⟨.ref e, rfl, e, rfl, ⟨_, SqT.of hT1⟩, fun D hD => lc_tup (K := K) (a := e) (xs := [.int p.1, .int p.2])
      (fun i H' => Same H1 H' ∧ H' D = some (.lst ((List.replicate i true).map V.bl))) ⟨same_new hD, upd_same⟩ (fun i H' _ h => SqT.of (h.1 _ _ hT1)) (fun i x H' hx h => ?_) (fun H' h => ?_)⟩
    · have hil := (List.getElem?_eq_some_iff.mp hx).1
      obtain ⟨n, rfl⟩ : ∃ n, x = .int n := by
        have hm := List.mem_of_getElem? hx
        rcases List.mem_cons.mp hm with e | hm
        · exact ⟨_, e⟩
        · exact ⟨_, List.mem_singleton.mp hm⟩
      refine ⟨rfl, iteT (B := True) ⟨.int n, rfl, _, true, rfl, whole_int n, ?_⟩⟩
      refine ⟨_, h.2, small1000 (by rw [List.length_map, List.length_replicate]; show i ≤ 1000; simp at hil; omega), ⟨fun b o e => ?_, ?_⟩⟩
      · rw [upd_ne (ne_of_none e hD)]
        exact h.1 b o e
      · rw [upd_same, List.replicate_succ', List.map_append]
        rfl
    · refine ⟨D, List.replicate 2 true, rfl, SqL.of h.2, true, rfl, iteF ?_⟩
      refine ⟨.ref e, rfl, .ref a, rfl, a, ns, rfl, ((hL.mono s1).mono h.1).sq, l12, fun H2 o ws s2 ho e1 r => ?_⟩
      refine ⟨prD p, (evs ns).map prD, dp_prT (SqT.of (s2 _ _ (h.1 _ _ hT1))), dp_prs (SqL.of e1) r, shaped_pr _, shaped_prs _, _, rfl, ?_⟩
      rw [any_prs, decide_eq_true hp]
      exact iteF (q H2 ((s1.trans h.1).trans s2))
def sp_evened : Sp := fun vs H Q _ => ∃ (a e : Addr) (ns : List Int) (p : Pr), vs = [.ref a, .ref e] ∧ Lst H a ns ∧ RowOk ns 12 1000000 ∧ H e = some (.tup [.int p.1, .int p.2]) ∧ p ∈ evs ns ∧
  ∀ H' o, Same H H' → H o = none → Lst H' o (behP ns p) → Q (.ref o) H'
theorem ok_evened {f : Addr} {fd : FuncData} (F : Fun K "evened" "evened" s_evened f fd) (cC : Cal CX0 P w K mg base "check_evening" ["row", "evening"] 3 sp_check_evening)
    (cB : Cal CX0 P w K mg base "behind" ["row", "evening"] 1 (sp_behind K)) : FnOk P w K mg base CX0 4 f fd ["row", "evening"] sp_evened := by
  refine F.ok sc_evened (fun vs H Q E h => ?_) (fun cdv A outer s H vs Q E hr h => ?_)
  · obtain ⟨a, e, ns, p, rfl, _⟩ := h
    rfl
  · obtain ⟨a, e, ns, p, rfl, hL, ok, hT, hp, q⟩ := h
    refine ⟨_, pss_cons (ps_expr (pe_cal cC hr (by rfl) (pa_cons (pv 0) (pa_cons (pv 1) pa_nil)))) (pss_one (ps_ret (pe_cal cB hr (by rfl) (pa_cons (pv 0) (pa_cons (pv 1) pa_nil))))), ?_⟩
    refine ⟨.ref a, rfl, .ref e, rfl, a, e, ns, p, rfl, hL, ok, hT, hp, fun H1 s1 => ?_⟩
    obtain ⟨i, j, ep, hij, hj, hg⟩ := mem_evs.mp hp
    subst ep
    have l12 := ok.len12
    refine ⟨.ref a, rfl, .ref e, rfl, a, e, ns, i, j, rfl, (hL.mono s1).sq, SqT.of (s1 _ _ hT), by omega, hj, l12, fun H2 o s2 ho h2 => ?_⟩
    exact q H2 o (s1.trans s2) (s1.free ho) h2
def sp_fall : Sp := fun vs H Q _ => ∃ (a e : Addr) (ns : List Int) (p : Pr), vs = [.ref a, .ref e] ∧ Lst H a ns ∧ RowOk ns 12 1000000 ∧ H e = some (.tup [.int p.1, .int p.2]) ∧ p ∈ evs ns ∧ ∀ H', Same H H' → Q (.int (fallP ns p)) H'
theorem ok_fall {f : Addr} {fd : FuncData} (F : Fun K "fall" "fall" s_fall f fd) (cC : Cal CX0 P w K mg base "check_evening" ["row", "evening"] 3 sp_check_evening) : FnOk P w K mg base CX0 4 f fd ["row", "evening"] sp_fall := by
  refine F.ok sc_fall (fun vs H Q E h => ?_) (fun cdv A outer s H vs Q E hr h => ?_)
  · obtain ⟨a, e, ns, p, rfl, _⟩ := h
    rfl
  · obtain ⟨a, e, ns, p, rfl, hL, ok, hT, hp, q⟩ := h
    refine ⟨_, pss_cons (ps_expr (pe_cal cC hr (by rfl) (pa_cons (pv 0) (pa_cons (pv 1) pa_nil))))
      (pss_cons (ps_set (i := 2) sc_fall.nd rfl (.inl rfl) (pe_op op_sub (pe_ix ix_list (pv 0) (pe_ix ix_tup (pv 1) pe_int (fun _ _ => rfl)) (fun _ _ => rfl)) (pe_ix ix_list (pv 0) (pe_ix ix_tup (pv 1) pe_int (fun _ _ => rfl)) (fun _ _ => rfl))))
      (pss_one (ps_ret (pe_op op_fdiv (pe_op op_mul (pv 2) (pv 2)) pe_int)))), ?_⟩
    refine ⟨.ref a, rfl, .ref e, rfl, a, e, ns, p, rfl, hL, ok, hT, hp, fun H1 s1 => ?_⟩
    obtain ⟨i, j, ep, hij, hj, hg⟩ := mem_evs.mp hp
    subst ep
    have hT1 := s1 _ _ hT
    have hS := (hL.mono s1).sq (K := K)
    have hi : i < ns.length := by omega
    have a1 := ok.getD hi
    have a2 := ok.getD hj
    refine ⟨.ref a, rfl, .ref e, rfl, e, _, 0, .int (i : Int), rfl, rfl, SqT.of hT1, rfl, a, _, _, _, rfl, rfl, hS, atI_nat (row_get hi), .ref a, rfl, .ref e, rfl, e, _, 1, .int (j : Int), rfl, rfl, SqT.of hT1, rfl, a, _, _, _, rfl, rfl, hS, atI_nat (row_get hj), _, _, rfl, rfl, ?_⟩
    refine ⟨_, rfl, _, rfl, _, _, rfl, rfl, .inl ⟨by omega, by omega⟩, _, _, rfl, rfl, ⟨by decide, by decide⟩, ?_⟩
    exact q H1 s1
end
end EG

/-! Squares, unlike numbers, ranges with a step. -/
namespace EG
open PySem L2
theorem rgC_pos {len c : Int} (h1 : 1 ≤ c) (h2 : c ≤ 1000) (h3 : 0 ≤ len) (h4 : len ≤ 1000) : ∃ n : Nat, RgC 0 len c n ∧ ∀ i : Nat, i < n → (0 : Int) ≤ (i : Int) * c ∧ (i : Int) * c < len := by
  have e := PyProof.Rows.rangeSize_toNat 0 len c
  have l := PyProof.Rows.rangeSize_toNat_le 0 len c
  refine ⟨(Builtin.Range.rangeSize 0 len c).toNat, ⟨by omega, by omega, ?_, e⟩, fun i hi => PyProof.Rows.start_inside h1 h3 (by omega) (by omega)⟩
  unfold Builtin.Range.small
  rw [e]
  simp only [Builtin.Range.rangeFitsLong, Bool.and_eq_true, Bool.or_eq_true, decide_eq_true_eq, beq_iff_eq, show c > 0 by omega, if_true]
  omega
/-- the sum of the squares -/
def sq (ns : List Int) : Int := (ns.map fun x => x * x).sum
theorem map_getD {f : Int → Int} {ns : List Int} {i : Nat} (h : i < ns.length) : (ns.map f)[i]? = some (f (ns.getD i 0)) := by
  rw [List.getElem?_map, List.getElem?_eq_getElem h, List.getD_eq_getElem?_getD, List.getElem?_eq_getElem h]; rfl
theorem sq_beh {ns : List Int} {i j : Nat} (hi : i < ns.length) (hj : j < ns.length) (hij : i ≠ j) :
    sq (beh ns i j) = sq ns - ns.getD i 0 * ns.getD i 0 - ns.getD j 0 * ns.getD j 0 + half ns i j * half ns i j + half ns i j * half ns i j := by
  unfold sq
  rw [← beh_set, List.map_set, List.map_set]
  rw [sum_set (z := ns.getD j 0 * ns.getD j 0), sum_set (map_getD hi)]
  · omega
  · rw [List.getElem?_set_ne hij]
    exact map_getD hj
theorem sum_beh {ns : List Int} {i j : Nat} (hi : i < ns.length) (hj : j < ns.length) (hij : i ≠ j) (h2 : (ns.getD i 0 + ns.getD j 0) % 2 = 0) : (beh ns i j).sum = ns.sum := by
  have g : ∀ k, k < ns.length → ns[k]? = some (ns.getD k 0) := fun k h => by rw [List.getElem?_eq_getElem h, List.getD_eq_getElem?_getD, List.getElem?_eq_getElem h]; rfl
  rw [← beh_set, sum_set (z := ns.getD j 0), sum_set (g i hi)]
  · unfold half; omega
  · rw [List.getElem?_set_ne hij]
    exact g j hj
theorem goodP_iff {ns : List Int} {i j : Nat} : goodP ns i j = true ↔ ns.getD i 0 ≠ ns.getD j 0 ∧ (ns.getD i 0 + ns.getD j 0) % 2 = 0 := by
  unfold goodP
  rw [Bool.and_eq_true, decide_eq_true_eq, Bool.not_eq_true', decide_eq_false_iff_not]
theorem sq_fall {ns : List Int} {p : Pr} (hp : p ∈ evs ns) : fallP ns p = sq ns - sq (behP ns p) ∧ 1 ≤ fallP ns p := by
  obtain ⟨i, j, rfl, hij, hj, hg⟩ := mem_evs.mp hp
  obtain ⟨h1, h2⟩ := goodP_iff.mp hg
  have e : sq (behP ns ((i : Int), (j : Int))) = _ := sq_beh (ns := ns) (i := i) (j := j) (by omega) hj (by omega)
  rw [e]
  show (ns.getD i 0 - ns.getD j 0) * (ns.getD i 0 - ns.getD j 0) / 2 = _ ∧ 1 ≤ (ns.getD i 0 - ns.getD j 0) * (ns.getD i 0 - ns.getD j 0) / 2
  obtain ⟨h, eh⟩ : ∃ h, ns.getD i 0 + ns.getD j 0 = 2 * h := ⟨(ns.getD i 0 + ns.getD j 0) / 2, by omega⟩
  have ehf : half ns i j = h := by unfold half; omega
  rw [ehf]
  generalize ns.getD i 0 = a at *
  generalize ns.getD j 0 = b at *
  have eb : b = 2 * h - a := by omega
  subst eb
  obtain ⟨d, ed⟩ : ∃ d, a = h + d := ⟨a - h, by omega⟩
  subst ed
  have e1 : (h + d - (2 * h - (h + d))) * (h + d - (2 * h - (h + d))) = 2 * (2 * (d * d)) := by
    rw [show h + d - (2 * h - (h + d)) = 2 * d by omega, Int.mul_assoc, Int.mul_left_comm d 2 d]
  have e2 : (h + d) * (h + d) = h * h + 2 * (h * d) + d * d := by
    rw [Int.add_mul, Int.mul_add, Int.mul_add, Int.mul_comm d h]; omega
  have e3 : (2 * h - (h + d)) * (2 * h - (h + d)) = h * h - 2 * (h * d) + d * d := by
    rw [show 2 * h - (h + d) = h - d by omega, Int.sub_mul, Int.mul_sub, Int.mul_sub, Int.mul_comm d h]; omega
  have d0 : d ≠ 0 := by
    intro z; subst z; omega
  have dp : 0 < d * d := by
    rcases Int.lt_or_gt_of_ne d0 with z | z
    · exact Int.mul_pos_of_neg_of_neg z z
    · exact Int.mul_pos z z
  rw [e1, e2, e3]
  omega
theorem RowOk.beh {ns : List Int} {m g : Int} (h : RowOk ns m g) {p : Pr} (hp : p ∈ evs ns) : RowOk (behP ns p) m g := by
  obtain ⟨i, j, rfl, hij, hj, hg⟩ := mem_evs.mp hp
  have a1 := h.getD (i := i) (by omega)
  have a2 := h.getD hj
  refine ⟨by show 1 ≤ (EG.beh ns i j).length; rw [beh_length]; exact h.1, by show ((EG.beh ns i j).length : Int) ≤ m; rw [beh_length]; exact h.2.1, fun x hx => ?_⟩
  obtain ⟨k, hk⟩ := List.mem_iff_getElem?.mp (show x ∈ EG.beh ns i j from hx)
  have hkl : k < ns.length := by
    have := (List.getElem?_eq_some_iff.mp hk).1
    rw [beh_length] at this
    exact this
  rw [beh_get ns i j k hkl] at hk
  have e := Option.some.inj hk
  have a3 := h.getD hkl
  split at e
  · unfold half at e; omega
  · omega
/-! ### unlike numbers -/
theorem firstMet_map {val : Nat → Int} {f : Int → Int} {n : Nat} (h : ∀ i j, i < n → j < n → f (val i) = f (val j) → val i = val j) :
    ∀ i, i ≤ n → PyProof.Rows.firstMet (fun k => f (val k)) i = (PyProof.Rows.firstMet val i).map f
  | 0, _ => rfl
  | i + 1, hi => by
    have ih := firstMet_map h i (by omega)
    rw [PyProof.Rows.firstMet_succ, PyProof.Rows.firstMet_succ, ih]
    have e : ((PyProof.Rows.firstMet val i).map f).any (· == f (val i)) = (PyProof.Rows.firstMet val i).any (· == val i) := by
      rw [← ih, PyProof.Rows.firstMet_any, PyProof.Rows.firstMet_any]
      rw [Bool.eq_iff_iff, List.any_eq_true, List.any_eq_true]
      constructor
      · rintro ⟨x, hx, e⟩
        obtain ⟨k, hk, rfl⟩ := List.mem_map.mp hx
        have hk2 := List.mem_range.mp hk
        exact ⟨val k, List.mem_map.mpr ⟨k, hk, rfl⟩, beq_iff_eq.mpr (h k i (by omega) (by omega) (eq_of_beq e))⟩
      · rintro ⟨x, hx, e⟩
        obtain ⟨k, hk, rfl⟩ := List.mem_map.mp hx
        exact ⟨f (val k), List.mem_map.mpr ⟨k, hk, rfl⟩, beq_iff_eq.mpr (by rw [eq_of_beq e])⟩
    unfold PyProof.Rows.step_dedup
    rw [e]
    split
    · rfl
    · rw [List.map_append]; rfl
theorem dcount_rest {ns : List Int} (h : evs ns = []) : dcount (ns.map (· % 2)) = dcount ns := by
  have no : ∀ i j, i < j → j < ns.length → goodP ns i j = true → False := fun i j h1 h2 h3 => by
    have : ((i : Int), (j : Int)) ∈ evs ns := mem_evs.mpr ⟨i, j, rfl, h1, h2, h3⟩
    rw [h] at this
    cases this
  have inj : ∀ i j, i < ns.length → j < ns.length → (ns.getD i 0) % 2 = (ns.getD j 0) % 2 → ns.getD i 0 = ns.getD j 0 := fun i j hi hj e => by
    by_cases c : ns.getD i 0 = ns.getD j 0
    · exact c
    · rcases Nat.lt_trichotomy i j with l | l | l
      · exact (no i j l hj (goodP_iff.mpr ⟨c, by omega⟩)).elim
      · rw [l]
      · exact (no j i l hi (goodP_iff.mpr ⟨fun z => c z.symm, by omega⟩)).elim
  unfold dcount
  have e1 : (fun i => (ns.map (· % 2)).getD i 0) = fun i => (fun x : Int => x % 2) (ns.getD i 0) := by
    funext i
    rw [List.getD_eq_getElem?_getD, List.getD_eq_getElem?_getD, List.getElem?_map]
    cases ns[i]? <;> rfl
  rw [e1, List.length_map, firstMet_map (f := fun x => x % 2) (val := fun i => ns.getD i 0) inj ns.length (Nat.le_refl _), List.length_map]
/-! ### the row turned about -/
theorem rev_get {ns : List Int} {i : Nat} (h : i < ns.length) : ns.reverse.getD i 0 = ns.getD (ns.length - 1 - i) 0 := by
  rw [List.getD_eq_getElem?_getD, List.getD_eq_getElem?_getD, List.getElem?_reverse h]
theorem evs_rev_nil {ns : List Int} (h : evs ns = []) : evs ns.reverse = [] := by
  rw [List.eq_nil_iff_forall_not_mem]
  intro p hp
  obtain ⟨i, j, rfl, hij, hj, hg⟩ := mem_evs.mp hp
  rw [List.length_reverse] at hj
  obtain ⟨h1, h2⟩ := goodP_iff.mp hg
  rw [rev_get (by omega), rev_get (by omega)] at h1 h2
  have : (((ns.length - 1 - j : Nat) : Int), ((ns.length - 1 - i : Nat) : Int)) ∈ evs ns := mem_evs.mpr ⟨_, _, rfl, by omega, by omega, goodP_iff.mpr ⟨fun z => h1 z.symm, by omega⟩⟩
  rw [h] at this
  cases this
theorem evs_rev_iff {ns : List Int} : evs ns.reverse = [] ↔ evs ns = [] :=
  ⟨fun h => by have := evs_rev_nil h; rwa [List.reverse_reverse] at this, evs_rev_nil⟩
theorem RowOk.rev {ns : List Int} {m g : Int} (h : RowOk ns m g) : RowOk ns.reverse m g :=
  ⟨by rw [List.length_reverse]; exact h.1, by rw [List.length_reverse]; exact h.2.1, fun x hx => h.2.2 x (List.mem_reverse.mp hx)⟩
/-! ### small words -/
theorem cut63 (ns : List Int) : ∃ ms : List Int, cutV (ns.map V.int) none (some 63) = ms.map V.int ∧ (∀ z ∈ ms, z ∈ ns) ∧ ms.length ≤ ns.length := by
  refine ⟨(ns.drop (HT.sIx (ns.map V.int).length 0 none)).take (HT.sIx (ns.map V.int).length (ns.map V.int).length (some 63) - HT.sIx (ns.map V.int).length 0 none), ?_, fun z hz => List.mem_of_mem_drop (List.mem_of_mem_take hz), ?_⟩
  · unfold cutV
    rw [List.map_take, List.map_drop]
  · rw [List.length_take, List.length_drop]
    omega
theorem nq_prs (ps : List Pr) : ¬ (!PyData.eqv (prsD ps) (prsD ps)) = true := by rw [eqv_prs, decide_eq_true rfl]; decide
theorem nq_row (ns : List Int) : ¬ (!PyData.eqv (rowD ns) (rowD ns)) = true := by rw [eqv_row, decide_eq_true rfl]; decide
theorem all_rep (n : Nat) : (List.replicate n true).all id = true := by simp
/-- what is made and then changed leaves what stood before -/
theorem same_upd2 {H H1 : Hp} {o : Addr} {x : HO} (s : Same H H1) (n : H o = none) : Same H (upd H1 o x) := fun b u e => by
  rw [upd_ne (ne_of_none e n)]
  exact s _ _ e
theorem dp_row' {K : PySem.W.Frag} {H : Hp} {a : Addr} {ns : List Int} (h : Lst H a ns) : Dp K H (.ref a) (rowD ns) := dp_row h.sq
theorem two_ways {c : Prop} [Decidable c] {U V : Prop} (v : V) (h : c → V → U) : if c then U else V := by
  by_cases x : c
  · rw [if_pos x]; exact h x v
  · rw [if_neg x]; exact v
theorem offF {A B : Prop} (h : if false = true then A else B) : B := by
  rw [if_neg Bool.false_ne_true] at h
  exact h
end EG

/-! Rows that come by a count of evenings; how many small rows there are. -/
namespace EG
open PySem L2
abbrev Rw := List Int
def ins (ks : List Rw) (r : Rw) : List Rw := if r ∈ ks then ks else ks ++ [r]
def kids (r : Rw) : List Rw := (evs r).map (behP r)
def nextL (L : List Rw) : List Rw := L.foldl (fun acc r => (kids r).foldl ins acc) []
def lev (ns : Rw) : Nat → List Rw
  | 0 => [ns]
  | n + 1 => nextL (lev ns n)
inductive Rch : Rw → Nat → Rw → Prop
  | zero (r : Rw) : Rch r 0 r
  | step {r q : Rw} {n : Nat} {p : Pr} : Rch r n q → p ∈ evs q → Rch r (n + 1) (behP q p)
theorem mem_ins {ks : List Rw} {r x : Rw} : x ∈ ins ks r ↔ x ∈ ks ∨ x = r := by
  unfold ins
  split
  · constructor
    · exact .inl
    · rintro (h | rfl)
      · exact h
      · assumption
  · rw [List.mem_append, List.mem_singleton]
theorem mem_insAll {x : Rw} : ∀ {rs acc : List Rw}, x ∈ rs.foldl ins acc ↔ x ∈ acc ∨ x ∈ rs
  | [], acc => by simp
  | r :: rs, acc => by rw [List.foldl_cons, mem_insAll, mem_ins, List.mem_cons, or_assoc]
theorem nd_ins {ks : List Rw} {r : Rw} (h : ks.Nodup) : (ins ks r).Nodup := by
  unfold ins
  split
  · exact h
  · rename_i c
    exact List.nodup_append.mpr ⟨h, List.nodup_cons.mpr ⟨List.not_mem_nil, List.nodup_nil⟩, fun a ha b hb e => c (by rw [List.mem_singleton] at hb; rw [← hb, ← e]; exact ha)⟩
theorem nd_insAll : ∀ {rs acc : List Rw}, acc.Nodup → (rs.foldl ins acc).Nodup
  | [], _, h => h
  | _ :: rs, _, h => nd_insAll (rs := rs) (nd_ins h)
/-- a level so far -/
def levN (L : List Rw) (i : Nat) : List Rw := (L.take i).foldl (fun acc r => (kids r).foldl ins acc) []
theorem levN_succ {L : List Rw} {i : Nat} {r : Rw} (h : L[i]? = some r) : levN L (i + 1) = (kids r).foldl ins (levN L i) := by
  unfold levN
  rw [List.take_add_one, h, List.foldl_append]
  rfl
theorem levN_all (L : List Rw) : levN L L.length = nextL L := by unfold levN nextL; rw [List.take_length]
theorem mem_fold {x : Rw} : ∀ {L acc : List Rw}, x ∈ L.foldl (fun acc r => (kids r).foldl ins acc) acc ↔ x ∈ acc ∨ ∃ r ∈ L, x ∈ kids r
  | [], acc => by simp
  | r :: L, acc => by
    rw [List.foldl_cons, mem_fold, mem_insAll]
    simp only [List.mem_cons, exists_eq_or_imp, or_assoc]
theorem mem_levN {x : Rw} {L : List Rw} {i : Nat} : x ∈ levN L i ↔ ∃ r ∈ L.take i, x ∈ kids r := by unfold levN; rw [mem_fold]; simp
theorem nd_fold : ∀ {L acc : List Rw}, acc.Nodup → (L.foldl (fun acc r => (kids r).foldl ins acc) acc).Nodup
  | [], _, h => h
  | _ :: L, _, h => nd_fold (L := L) (nd_insAll h)
theorem nd_levN (L : List Rw) (i : Nat) : (levN L i).Nodup := nd_fold List.nodup_nil
theorem nd_lev (ns : Rw) : ∀ n, (lev ns n).Nodup
  | 0 => List.nodup_cons.mpr ⟨List.not_mem_nil, List.nodup_nil⟩
  | _ + 1 => nd_fold List.nodup_nil
theorem mem_kids {r x : Rw} : x ∈ kids r ↔ ∃ p ∈ evs r, x = behP r p := by
  unfold kids
  rw [List.mem_map]
  constructor
  · rintro ⟨p, h, rfl⟩; exact ⟨p, h, rfl⟩
  · rintro ⟨p, h, rfl⟩; exact ⟨p, h, rfl⟩
theorem mem_lev {ns x : Rw} : ∀ {n : Nat}, x ∈ lev ns n ↔ Rch ns n x
  | 0 => by
    show x ∈ [ns] ↔ _
    rw [List.mem_singleton]
    constructor
    · rintro rfl; exact .zero _
    · intro h; cases h; rfl
  | n + 1 => by
    show x ∈ nextL (lev ns n) ↔ _
    unfold nextL
    rw [mem_fold]
    constructor
    · rintro (h | ⟨r, hr, hx⟩)
      · cases h
      · obtain ⟨p, hp, rfl⟩ := mem_kids.mp hx
        exact .step (mem_lev.mp hr) hp
    · intro h
      cases h with
      | @step q _ p h hp => exact .inr ⟨q, mem_lev.mpr h, mem_kids.mpr ⟨p, hp, rfl⟩⟩
theorem Rch.sq {ns r : Rw} {n : Nat} (h : Rch ns n r) : EG.sq r + n ≤ EG.sq ns := by
  induction h with
  | zero => omega
  | step h hp ih =>
    have := sq_fall hp
    omega
theorem Rch.ok {ns r : Rw} {n : Nat} {m g : Int} (h : Rch ns n r) (ok : RowOk ns m g) : RowOk r m g := by
  induction h with
  | zero => exact ok
  | step h hp ih => exact ih.beh hp
theorem behP_length (r : Rw) (p : Pr) : (behP r p).length = r.length := beh_length _ _ _
theorem Rch.len {ns r : Rw} {n : Nat} (h : Rch ns n r) : r.length = ns.length := by
  induction h with
  | zero => rfl
  | step h hp ih => rw [behP_length, ih]
theorem behP_sum {r : Rw} {p : Pr} (hp : p ∈ evs r) : (behP r p).sum = r.sum := by
  obtain ⟨i, j, rfl, hij, hj, hg⟩ := mem_evs.mp hp
  exact sum_beh (by omega) hj (by omega) (goodP_iff.mp hg).2
theorem Rch.sum {ns r : Rw} {n : Nat} (h : Rch ns n r) : List.sum r = List.sum ns := by
  induction h with
  | zero => rfl
  | step h hp ih => rw [behP_sum hp, ih]
theorem sq_nonneg (r : Rw) : 0 ≤ sq r := by
  unfold sq
  induction r with
  | nil => exact Int.le_refl _
  | cons x r ih =>
    rw [List.map_cons, List.sum_cons]
    have : 0 ≤ x * x := by
      rcases Int.le_total 0 x with h | h
      · exact Int.mul_nonneg h h
      · exact Int.mul_nonneg_of_nonpos_of_nonpos h h
    omega
theorem Rch.bound {ns r : Rw} {n : Nat} (h : Rch ns n r) : n ≤ (EG.sq ns).toNat := by
  have h1 := h.sq
  have h2 := sq_nonneg r
  omega
theorem lev_end (ns : Rw) {n : Nat} (h : (sq ns).toNat < n) : lev ns n = [] := by
  rw [List.eq_nil_iff_forall_not_mem]
  intro r hr
  have := (mem_lev.mp hr).bound
  omega
/-- how many rows there are -/
theorem nodup_lt : ∀ (M : Nat) (l : List Nat), l.Nodup → (∀ x ∈ l, x < M) → l.length ≤ M
  | 0, l, _, h => by
    cases l with
    | nil => exact Nat.le_refl _
    | cons x l => exact absurd (h x List.mem_cons_self) (by omega)
  | M + 1, l, nd, h => by
    by_cases c : M ∈ l
    · have ih := nodup_lt M (l.erase M) (nd.erase M) fun x hx => by
        have h1 := h x (List.mem_of_mem_erase hx)
        have h2 : x ≠ M := (nd.mem_erase_iff.mp hx).1
        omega
      rw [List.length_erase_of_mem c] at ih
      omega
    · have ih := nodup_lt M l nd fun x hx => by
        have h1 := h x hx
        have h2 : x ≠ M := fun e => c (by rw [← e]; exact hx)
        omega
      omega
def code (r : Rw) : Nat := r.foldr (fun x a => x.toNat + 21 * a) 0
theorem code_lt : ∀ {r : Rw}, (∀ x ∈ r, 0 ≤ x ∧ x ≤ 20) → code r < 21 ^ r.length
  | [], _ => by decide
  | x :: r, h => by
    have h1 := h x List.mem_cons_self
    have ih := code_lt (r := r) fun y hy => h y (List.mem_cons_of_mem _ hy)
    show x.toNat + 21 * code r < 21 ^ (r.length + 1)
    rw [Nat.pow_succ]
    omega
theorem code_inj : ∀ {r q : Rw}, r.length = q.length → (∀ x ∈ r, 0 ≤ x ∧ x ≤ 20) → (∀ x ∈ q, 0 ≤ x ∧ x ≤ 20) → code r = code q → r = q
  | [], [], _, _, _, _ => rfl
  | [], _ :: _, h, _, _, _ => by simp at h
  | _ :: _, [], h, _, _, _ => by simp at h
  | x :: r, y :: q, hl, hr, hq, e => by
    have h1 := hr x List.mem_cons_self
    have h2 := hq y List.mem_cons_self
    have e' : x.toNat + 21 * code r = y.toNat + 21 * code q := e
    have e1 : x = y := by omega
    have e2 : code r = code q := by omega
    rw [e1, code_inj (by simpa using hl) (fun z hz => hr z (List.mem_cons_of_mem _ hz)) (fun z hz => hq z (List.mem_cons_of_mem _ hz)) e2]
theorem small_count {L : List Rw} (nd : L.Nodup) {n : Nat} (hn : n ≤ 5) (h : ∀ r ∈ L, r.length = n ∧ ∀ x ∈ r, 0 ≤ x ∧ x ≤ 20) : L.length ≤ 4084101 := by
  have h1 : (L.map code).length ≤ 21 ^ n := by
    refine nodup_lt _ _ ?_ ?_
    · rw [List.nodup_iff_pairwise_ne, List.pairwise_map]
      refine List.Pairwise.imp_of_mem ?_ (List.nodup_iff_pairwise_ne.mp nd)
      intro a b ha hb hne e
      exact hne (code_inj ((h a ha).1.trans (h b hb).1.symm) (h a ha).2 (h b hb).2 e)
    · intro x hx
      obtain ⟨r, hr, rfl⟩ := List.mem_map.mp hx
      have := code_lt (h r hr).2
      rwa [(h r hr).1] at this
  rw [List.length_map] at h1
  have h2 : 21 ^ n ≤ 21 ^ 5 := Nat.pow_le_pow_right (by decide) hn
  exact Nat.le_trans h1 (Nat.le_trans h2 (by decide))
abbrev Small (ns : Rw) : Prop := RowOk ns 5 20
theorem Small.row12 {ns : Rw} (h : Small ns) : ns.length ≤ 12 := by have := h.2.1; omega
theorem Small.len5 {ns : Rw} (h : Small ns) : ns.length ≤ 5 := by have := h.2.1; omega
theorem sq_le : ∀ {ns : Rw}, (∀ x ∈ ns, 0 ≤ x ∧ x ≤ 20) → sq ns ≤ 400 * ns.length
  | [], _ => by decide
  | x :: ns, h => by
    have ih := sq_le (ns := ns) fun y hy => h y (List.mem_cons_of_mem _ hy)
    obtain ⟨h1, h2⟩ := h x List.mem_cons_self
    have h3 : x * x ≤ 20 * 20 := Int.mul_le_mul h2 h2 h1 (by decide)
    show (List.map (fun x => x * x) (x :: ns)).sum ≤ 400 * ((x :: ns).length : Int)
    unfold sq at ih
    rw [List.map_cons, List.sum_cons, List.length_cons]
    omega
theorem Small.sq {ns : Rw} (h : Small ns) : (EG.sq ns).toNat ≤ 2000 := by
  have h1 := sq_le h.2.2
  have h2 := h.len5
  omega
theorem count_le {L : List Rw} {ns : Rw} (ok : Small ns) (nd : L.Nodup) (h : ∀ r ∈ L, ∃ n, Rch ns n r) : L.length ≤ 4084101 :=
  small_count nd ok.len5 fun r hr => by
    obtain ⟨n, hn⟩ := h r hr
    exact ⟨hn.len, (hn.ok ok).2.2⟩
theorem lev_count {ns : Rw} (ok : Small ns) (n : Nat) : (lev ns n).length ≤ 4084101 := count_le ok (nd_lev ns n) fun _ hr => ⟨n, mem_lev.mp hr⟩
theorem lineB {n : Nat} (h : n ≤ 4100000) : n < sizeLine := Nat.lt_of_le_of_lt h (by decide)
end EG

/-! The law's own small functions, common to the laws. -/
namespace EG
open PySem L2
theorem at_in {xs : List V} {i : Int} (h0 : 0 ≤ i) (h1 : i < xs.length) : ∃ v, atI xs i = some v ∧ v ∈ xs := by
  have hl : i.toNat < xs.length := by omega
  exact ⟨xs[i.toNat], at_of (j := i.toNat) (by omega) (List.getElem?_eq_getElem hl), List.getElem_mem hl⟩
abbrev bits (i : Int) : Nat := Builtin.Int.intBits i
section
variable {P : Program} {w : World} {K : PySem.W.Frag} {mg : Str → Option Value} {base : Heap}
/-! ### a cell of the script -/
def sp_cell_at (K : PySem.W.Frag) : Sp := fun vs H Q _ => ∃ (a : Addr) (ns : List Int) (k : Int), vs = [.ref a, .int k] ∧ SqL K H a (ns.map V.int) ∧ 0 ≤ k ∧ ∀ z : Int, (z = 0 ∨ z ∈ ns) → Q (.int z) H
theorem ok_cell_at {f : Addr} {fd : FuncData} (F : Fun K "_law_cell_at" "_law_cell_at" s_l_cell_at f fd) (B : Blt mg) : FnOk P w K mg base CX0 1 f fd ["_law_script", "_law_k"] (sp_cell_at K) := by
  refine F.ok sc_l_cell_at (fun vs H Q E h => ?_) (fun cdv A outer s H vs Q E hr h => ?_)
  · obtain ⟨a, ns, k, rfl, _⟩ := h
    rfl
  · obtain ⟨a, ns, k, rfl, hS, h0, q⟩ := h
    refine ⟨_, pss_cons (ps_if (pt_cmpR op_lt (pv 1) (pe_callB call_len_seq (by rfl) B.len PySem.boot_len (pa_cons (pv 0) pa_nil)) (nomark _)) (pss_one (ps_ret (pe_ix ix_list (pv 0) (pv 1) (fun _ _ => rfl)))) pss_nil)
      (pss_one (ps_ret pe_int)), ?_⟩
    refine ⟨.int k, rfl, .ref a, rfl, a, _, rfl, .inl hS, _, _, rfl, rfl, _, rfl, ite2 (fun c => ?_) (fun _ => q 0 (.inl rfl))⟩
    have c1 : k < ((ns.map V.int).length : Int) := of_decide_eq_true c
    obtain ⟨v, e, hv⟩ := at_in h0 c1
    obtain ⟨z, hz, rfl⟩ := List.mem_map.mp hv
    exact ⟨.ref a, rfl, .int k, rfl, a, _, _, _, rfl, rfl, hS, e, q z (.inr hz)⟩
/-! ### a draw -/
def primes : List Int := [1000003, 1000033, 1000037, 1000039, 1000081, 1000099, 1000117, 1000121, 1000133, 1000151, 1000159, 1000171, 1000183, 1000187, 1000193, 1000199]
def sp_draw : Sp := fun vs H Q _ => ∃ c k m : Int, vs = [.int c, .int k, .int m] ∧ 0 < m ∧ ∀ H' z, Same H H' → Q (.int z) H'
theorem ok_draw {f : Addr} {fd : FuncData} (F : Fun K "_law_draw" "_law_draw" s_l_draw f fd) : FnOk P w K mg base CX0 1 f fd ["_law_cell", "_law_k", "_law_many"] sp_draw := by
  refine F.ok sc_l_draw (fun vs H Q E h => ?_) (fun cdv A outer s H vs Q E hr h => ?_)
  · obtain ⟨c, k, m, rfl, _⟩ := h
    rfl
  · obtain ⟨c, k, m, rfl, hm, q⟩ := h
    refine ⟨_, pss_cons (ps_set (i := 3) sc_l_draw.nd rfl (.inl rfl) (pe_tup (pa_cons pe_int (pa_cons pe_int (pa_cons pe_int (pa_cons pe_int (pa_cons pe_int (pa_cons pe_int (pa_cons pe_int (pa_cons pe_int
        (pa_cons pe_int (pa_cons pe_int (pa_cons pe_int (pa_cons pe_int (pa_cons pe_int (pa_cons pe_int (pa_cons pe_int (pa_cons pe_int pa_nil))))))))))))))))))
      (pss_one (ps_ret (pe_op op_mod (pe_op op_mod (pe_op op_add (pe_op op_mul (pv 0) pe_int) (pe_op op_mul (pv 1) pe_int)) (pe_ix ix_tup (pv 3) (pe_op op_mod (pv 1) pe_int) (fun _ _ => rfl))) (pv 2)))), ?_⟩
    refine ⟨(by show 16 ≤ sizeLine; decide), fun t ht => ?_⟩
    have hT : (upd H t (.tup (primes.map V.int))) t = some (.tup (primes.map V.int)) := upd_same
    refine ⟨.int c, rfl, _, _, rfl, rfl, .inr ⟨by decide, by decide⟩, .int k, rfl, _, _, rfl, rfl, .inr ⟨by decide, by decide⟩, _, _, rfl, rfl, ?_⟩
    have h16 : (0 : Int) ≤ k % 16 ∧ k % 16 < 16 := by omega
    obtain ⟨v, e, hv⟩ := at_in (xs := primes.map V.int) (i := k % 16) h16.1 h16.2
    obtain ⟨z, hz, rfl⟩ := List.mem_map.mp hv
    have hz0 : (0 : Int) < z := by
      revert hz
      revert z
      intro z _ _ hz
      have : ∀ y ∈ primes, (0 : Int) < y := by decide
      exact this z hz
    refine ⟨.ref t, rfl, .int k, rfl, _, _, rfl, rfl, (by show (0 : Int) < 16; decide), t, _, _, _, rfl, rfl, SqT.of hT, e, _, _, rfl, rfl, hz0, .int m, rfl, _, _, rfl, rfl, hm, ?_⟩
    exact q _ _ (same_new ht)
/-! ### a value -/
def sp_value : Sp := fun vs H Q _ => ∃ c k : Int, vs = [.int c, .int k] ∧ bits c ≤ 1048600 ∧ 0 ≤ k ∧ k ≤ 1000 ∧ ∀ H' z, Same H H' → Q (.int z) H'
theorem bits_small {z : Int} (h : z.natAbs < 2 ^ 64) : bits z ≤ 64 := intBits_le_iff.mpr h
theorem bits_add {c z : Int} {m : Nat} (hc : bits c ≤ m) (hz : z.natAbs < 2 ^ 64) (hm : 64 ≤ m) : bits (c + z) ≤ m + 1 := by
  have h := intBits_add_le hc (bits_small hz)
  rw [Nat.max_eq_left hm] at h
  exact h
theorem ok_value {f : Addr} {fd : FuncData} (F : Fun K "_law_value" "_law_value" s_l_value f fd) (cD : Cal CX0 P w K mg base "_law_draw" ["_law_cell", "_law_k", "_law_many"] 1 sp_draw) : FnOk P w K mg base CX0 2 f fd ["_law_cell", "_law_turn"] sp_value := by
  refine F.ok sc_l_value (fun vs H Q E h => ?_) (fun cdv A outer s H vs Q E hr h => ?_)
  · obtain ⟨c, k, rfl, _⟩ := h
    rfl
  · obtain ⟨c, k, rfl, hb, h0, h1, q⟩ := h
    refine ⟨_, pss_cons (ps_if (pt_cmpR op_ge (pv 0) (pe_op op_pow pe_int pe_int) (nomark _)) (pss_one (ps_ret (pe_op op_shr (pe_op op_sub (pv 0) (pe_op op_pow pe_int pe_int)) (pe_op op_mul pe_int (pv 1))))) pss_nil)
      (pss_cons (ps_set (i := 2) sc_l_value.nd rfl (.inl rfl) (pe_cal cD hr (by rfl) (pa_cons (pe_op op_mulB (pe_op op_add (pv 0) (pe_op op_mul pe_int (pv 1))) (pe_op op_add (pe_op op_add (pv 0) (pe_op op_mul pe_int (pv 1))) pe_int))
          (pa_cons (pe_op op_add (pe_op op_mod (pv 1) pe_int) pe_int) (pa_cons pe_int pa_nil)))))
      (pss_one (ps_ret (pe_op op_add (pe_op op_mul (pv 2) pe_int) (pe_cal cD hr (by rfl) (pa_cons (pe_op op_add (pe_op op_mulB (pe_op op_add (pv 0) (pe_op op_mul pe_int (pv 1))) (pe_op op_add (pv 0) pe_int)) (pe_op op_mul pe_int (pv 1)))
          (pa_cons (pe_op op_add (pe_op op_mod (pv 1) pe_int) pe_int) (pa_cons pe_int pa_nil)))))))), ?_⟩
    have pw : CPow 10 18 := ⟨by decide, by decide, by decide⟩
    refine ⟨.int c, rfl, _, _, rfl, rfl, pw, _, _, rfl, rfl, _, rfl, ite2 (fun _ => ?_) (fun _ => ?_)⟩
    · refine ⟨.int c, rfl, _, _, rfl, rfl, pw, _, _, rfl, rfl, .int k, rfl, _, _, rfl, rfl, .inl ⟨by decide, by decide⟩, _, _, rfl, rfl, by omega, ?_⟩
      exact q _ _ (Same.refl _)
    · have b1 : bits (c + 977 * k) ≤ 1048601 := bits_add hb (by omega) (by decide)
      have b2 : bits (c + 31 * k) ≤ 1048601 := bits_add hb (by omega) (by decide)
      have b3 : bits (c + 31 * k + 5) ≤ 1048602 := bits_add b2 (by decide) (by decide)
      have b4 : bits (c + 7) ≤ 1048601 := bits_add hb (by decide) (by decide)
      refine ⟨.int c, rfl, .int k, rfl, _, _, rfl, rfl, .inl ⟨by decide, by decide⟩, _, _, rfl, rfl, .int c, rfl, .int k, rfl, _, _, rfl, rfl, .inl ⟨by decide, by decide⟩, _, _, rfl, rfl, _, _, rfl, rfl, _, _, rfl, rfl, IntMulOk.of_le b1 b3 (by decide), ?_⟩
      refine ⟨.int k, rfl, _, _, rfl, rfl, (by show (0 : Int) < 9; decide), _, _, rfl, rfl, _, _, _, rfl, by decide, fun H1 z1 s1 => ?_⟩
      refine ⟨.int z1, rfl, _, _, rfl, rfl, .inr ⟨by decide, by decide⟩, ?_⟩
      refine ⟨.int c, rfl, .int k, rfl, _, _, rfl, rfl, .inl ⟨by decide, by decide⟩, _, _, rfl, rfl, .int c, rfl, _, _, rfl, rfl, _, _, rfl, rfl, IntMulOk.of_le b2 b4 (by decide), .int k, rfl, _, _, rfl, rfl, .inl ⟨by decide, by decide⟩, _, _, rfl, rfl, ?_⟩
      refine ⟨.int k, rfl, _, _, rfl, rfl, (by show (0 : Int) < 7; decide), _, _, rfl, rfl, _, _, _, rfl, by decide, fun H2 z2 s2 => ?_⟩
      exact ⟨_, _, rfl, rfl, q _ _ (s1.trans s2)⟩
end
end EG

namespace EG
open PySem L2
section
variable {P : Program} {w : World} {K : PySem.W.Frag} {mg : Str → Option Value} {base : Heap}
def sp_l_whole (K : PySem.W.Frag) : Sp := fun vs H Q _ => ∃ (x : V) (b : Bool), vs = [x] ∧ Whole K H x b ∧ Q (.bl b) H
theorem ok_l_whole {f : Addr} {fd : FuncData} (F : Fun K "_law_whole" "_law_whole" s_l_whole f fd) (B : Blt mg) : FnOk P w K mg base CX0 1 f fd ["_law_number"] (sp_l_whole K) := by
  refine F.ok sc_l_whole (fun vs H Q E h => ?_) (fun cdv A outer s H vs Q E hr h => ?_)
  · obtain ⟨x, b, rfl, _⟩ := h
    rfl
  · obtain ⟨x, b, rfl, ⟨t, b1, b2, ht, h1, h2, rfl⟩, q⟩ := h
    refine ⟨_, pss_one (ps_ret (pe_and (pe_callB call_isi (by rfl) B.isi PyProof.Rows.boot_isinstance (pa_cons (pv 0) (pa_cons (pe_bltn (v := .ty "int") (by rfl) B.int PyProof.Rows.boot_int rfl) pa_nil)))
      (pe_one (pe_not (pe_callB call_isi (by rfl) B.isi PyProof.Rows.boot_isinstance (pa_cons (pv 0) (pa_cons (pe_bltn (v := .ty "bool") (by rfl) B.bool PyProof.Rows.boot_bool rfl) pa_nil))))))), ?_⟩
    refine ⟨x, rfl, _, _, _, _, b1, rfl, .ty _, ht, h1, b1, rfl, ?_⟩
    cases b1 with
    | false => exact iteF q
    | true => exact iteT ⟨x, rfl, _, _, _, _, b2, rfl, .ty _, ht, h2 rfl, b2, rfl, q⟩
end
end EG

/-! {key: value} of one pair, the key a tuple. -/
namespace EG
open PySem PySem.Spec PyProof.Rows L2
def tDispT (tk tv : TE) : TE := fun σ H Q => ∀ p, H p = none → tk σ (upd H p (.dT [])) fun x H1 => tv σ H1 fun y H2 =>
  ∃ (b : Addr) (k : List Key), x = .ref b ∧ H2 p = some (.dT []) ∧ H2 b = some (.tup (k.map kV)) ∧ Q (.ref p) (upd H2 p (.dT [(k, y)]))
section
variable {X : Cx}
theorem pe_dispT {k v : Expr} {tk tv : TE} {pos : Pos} (hu : X.A.units + 1 < cLine) (hk : PE X k tk) (hv : PE X v tv) : PE X (.Dict [some k] [v] pos) (tDispT tk tv) := by
  refine ⟨fun pins s σ H Q I q => ?_⟩
  have fr := I.hok.fresh (Nat.le_refl s.heap.objs.size)
  have IA := I.laid (a := s.heap.objs.size) (o := .dT []) (h' := s.heap.push { cls := .type "dict", data := .dict #[] }) (t' := s.toks) (fun _ _ z => Heap.get?_push_of_some _ z) (Nat.le_refl _) (dt_empty s.heap I.big)
  rw [arm_eval_Dict, zip_pairTrees [some k] [v] X.env pos rfl rfl, dictDisplay_pairs (pairTrees [some k] [v] X.env pos) (by simp [pairTrees]) (by simp [pairTrees])]
  refine wpAny_bind (wpAny_standAt (wpAny_bind (wpAny_subDictH (knd := tupleKind (mixKind X.prog X.w)) (Q := fun d s' => wpAny (model X.prog X.w) X.A (pure (Value.ref d)) (EP X pins σ Q) X.xe s') (show X.A.units < cLine by omega) (by simp [pairTrees]) ?_)))
  refine pairTrees_cons_walk (thn (hk.run pins _ σ _ _ IA (q _ fr)) fun u sA ⟨x, HA, IB, rx, qA⟩ => thn (hv.run pins sA σ HA _ IB qA) fun z sB ⟨y, HB, IC, ry, b, ks, ex, e, eb, qB⟩ => pairTrees_nil_walk ?_)
  subst ex
  cases rx
  obtain ⟨_, hd, xs, rel, dd⟩ := dt_of IC.hok e
  cases rel
  refine ⟨[(ks, b, z)], ⟨rfl, rfl, key_of IC.hok eb, trivial⟩, dd, fun hN tN dN hs => wpAny_pure ⟨.ref s.heap.objs.size, _, ?_, rfl, qB⟩⟩
  obtain ⟨o, es, ep, hq, h2, h3, h4, _, h5⟩ := dN
  refine d_write IC (by rw [e]; exact True.intro) hs ⟨o, hq⟩ ⟨by show 1 ≤ sizeLine; decide, hd, [(ks, b, z)], .cons ⟨rfl, ?_, ry⟩ .nil, o, es, ep, hq, h2, h3, h4, h5⟩
  rw [upd_ne (ne_of eb e (fun w => nomatch w))]
  exact eb
end
end EG

/-! Dicts whose keys are rows; lists of rows. -/
namespace EG
open PySem L2
def rowKey (r : Rw) : List Key := r.map Sum.inl
theorem rowKey_V (r : Rw) : (rowKey r).map kV = r.map V.int := by unfold rowKey; rw [List.map_map]; rfl
theorem rowKey_inj {r q : Rw} (h : rowKey r = rowKey q) : r = q := by
  unfold rowKey at h
  exact (List.map_inj_right fun a b e => Sum.inl.inj e).mp h
def dRows (ks : List Rw) : List (List Key × V) := ks.map fun r => (rowKey r, V.bl true)
theorem dRows_length (ks : List Rw) : (dRows ks).length = ks.length := List.length_map ..
theorem val_dRows (r : Rw) : ∀ ks : List Rw, (valV (dRows ks) (rowKey r)).isSome = decide (r ∈ ks)
  | [] => rfl
  | k :: ks => by
    have ih := val_dRows r ks
    by_cases e : k = r
    · subst e
      rw [show dRows (k :: ks) = (rowKey k, V.bl true) :: dRows ks from rfl, valV_pos rfl]
      simp
    · have e2 : ¬ (rowKey k, V.bl true).1 = rowKey r := fun z => e (rowKey_inj z)
      have e3 : ¬ r = k := fun z => e z.symm
      rw [show dRows (k :: ks) = (rowKey k, V.bl true) :: dRows ks from rfl, valV_neg e2, ih]
      simp [e3]
theorem put_dRows (ks : List Rw) (r : Rw) : putK (dRows ks) (rowKey r) (V.bl true) = dRows (ins ks r) := by
  unfold ins
  by_cases c : r ∈ ks
  · rw [if_pos c]
    unfold putK
    rw [valV_any, val_dRows, decide_eq_true c, if_pos rfl]
    unfold dRows
    rw [List.map_map]
    refine List.map_congr_left fun q _ => ?_
    show (if rowKey q = rowKey r then (rowKey q, V.bl true) else (rowKey q, V.bl true)) = _
    split <;> rfl
  · rw [if_neg c, putK_new]
    · unfold dRows; rw [List.map_append]; rfl
    · have h := val_dRows r ks
      rw [decide_eq_false c] at h
      cases e : valV (dRows ks) (rowKey r) with
      | none => rfl
      | some v => rw [e] at h; cases h
theorem get_dRows {ks : List Rw} {i : Nat} {k : List Key} {v : V} (h : (dRows ks)[i]? = some (k, v)) : ∃ r, ks[i]? = some r ∧ k = rowKey r := by
  unfold dRows at h
  rw [List.getElem?_map] at h
  cases e : ks[i]? with
  | none => rw [e] at h; cases h
  | some r => rw [e] at h; cases h; exact ⟨r, rfl, rfl⟩
/-- a comprehension over a dict's tuple keys -/
theorem lc_keysT {d : Addr} {od : Obj} {kvs : List (List Key × V)} {g : TG} {tt : TT} {te : TE} {vs : List Nat} {σ : St} {H1 : Hp} {D : Addr} {Qd : Hp → Prop} (Pv : Nat → Hp → Prop) (h0 : Pv 0 (upd H1 D (.lst [])))
    (hl : ∀ i H, Pv i H → H d = some (.frz od (.dT kvs)))
    (hs : ∀ (i : Nat) (k : List Key) (v : V) (q : Addr) (H : Hp), kvs[i]? = some (k, v) → H q = some (.tup (k.map kV)) → Pv i H → g (.ref q) (wipe σ vs) H fun σ2 H2 => wipe σ2 vs = wipe σ vs ∧ tt σ2 H2 fun b H3 =>
      if b = true then te σ2 H3 fun y H4 => ∃ acc, H4 D = some (.lst acc) ∧ acc.length < sizeLine ∧ Pv (i + 1) (upd H4 D (.lst (acc ++ [y]))) else Pv (i + 1) H3) (hd : ∀ H, Pv kvs.length H → Qd H) :
    ∃ W : Nat → Nat → Hp → Prop, (∃ m, W 0 m (upd H1 D (.lst []))) ∧ ∀ i m H, W i m H →
      ((Itkt d od kvs).stop i H ∧ Qd H) ∨ ((Itkt d od kvs).go i H ∧ ∃ Nx : Hp → Prop, (∀ H', Nx H' → ∃ m', m' < m ∧ W (i + 1) m' H') ∧ ∀ x H', (Itkt d od kvs).yld i H x H' → g x (wipe σ vs) H' fun σ2 H2 => wipe σ2 vs = wipe σ vs ∧ tt σ2 H2 fun b H3 =>
        if b = true then te σ2 H3 fun y H4 => ∃ acc, H4 D = some (.lst acc) ∧ acc.length < sizeLine ∧ Nx (upd H4 D (.lst (acc ++ [y]))) else Nx H3) := by
  refine ⟨fun i m H => m = kvs.length - i ∧ i ≤ kvs.length ∧ Pv i H, ⟨kvs.length, by omega, Nat.zero_le _, h0⟩, ?_⟩
  rintro i m H ⟨rfl, hi, p⟩
  have hdo := hl i H p
  by_cases c : i < kvs.length
  · refine .inr ⟨⟨hdo, c⟩, Pv (i + 1), fun H' z => ⟨kvs.length - (i + 1), by omega, rfl, c, z⟩, fun x H' y => ?_⟩
    obtain ⟨rfl, k, v, q, ek, rfl, eq⟩ := y
    exact hs i k v q _ ek eq p
  · have e : i = kvs.length := by omega
    subst e
    exact .inl ⟨⟨hdo, Nat.le_refl _⟩, hd H p⟩
/-! ### lists that stand -/
def Lsts (H H' : Hp) : Prop := ∀ b xs, H b = some (.lst xs) → H' b = some (.lst xs)
theorem Same.lsts {H H' : Hp} (s : Same H H') : Lsts H H' := fun b xs h => s b _ h
theorem Lsts.refl (H : Hp) : Lsts H H := fun _ _ h => h
theorem Lsts.trans {H H1 H2 : Hp} (a : Lsts H H1) (b : Lsts H1 H2) : Lsts H H2 := fun c xs h => b c xs (a c xs h)
theorem lsts_dT {H : Hp} {p : Addr} {kvs : List (List Key × V)} {o : HO} (h : H p = some (.dT kvs)) : Lsts H (upd H p o) := fun b ys e => by
  rw [upd_ne (ne_of e h (by intro z; cases z))]; exact e
theorem lsts_frz {H : Hp} {p : Addr} {u : Obj} {z : HO} {o : HO} (h : H p = some (.frz u z)) : Lsts H (upd H p o) := fun b ys e => by
  rw [upd_ne (ne_of e h (by intro z; cases z))]; exact e
theorem tups_dT {H : Hp} {p : Addr} {kvs : List (List Key × V)} {o : HO} (h : H p = some (.dT kvs)) : TupS H (upd H p o) := fun b ys e => by
  rw [upd_ne (ne_of e h (by intro z; cases z))]; exact e
theorem tups_frz {H : Hp} {p : Addr} {u : Obj} {z : HO} {o : HO} (h : H p = some (.frz u z)) : TupS H (upd H p o) := fun b ys e => by
  rw [upd_ne (ne_of e h (by intro z; cases z))]; exact e
/-- a heap without some addresses -/
def hid (H : Hp) (xs : List Addr) : Hp := fun b => if b ∈ xs then none else H b
theorem hid_in {H : Hp} {xs : List Addr} {b : Addr} (h : b ∈ xs) : hid H xs b = none := if_pos h
theorem hid_out {H : Hp} {xs : List Addr} {b : Addr} (h : b ∉ xs) : hid H xs b = H b := if_neg h
theorem hid_same (H : Hp) (xs : List Addr) : Same (hid H xs) H := fun b o e => by
  unfold hid at e
  split at e
  · cases e
  · exact e
theorem hid_mono {H H' : Hp} {xs : List Addr} (s : Same H H') : Same (hid H xs) (hid H' xs) := fun b o e => by
  unfold hid at e ⊢
  split at e
  · cases e
  · rename_i c
    rw [if_neg c]
    exact s _ _ e
theorem hid_lsts {H H' : Hp} {xs : List Addr} (s : Lsts H H') : Lsts (hid H xs) (hid H' xs) := fun b o e => by
  unfold hid at e ⊢
  split at e
  · cases e
  · rename_i c
    rw [if_neg c]
    exact s _ _ e
theorem hid_upd {H : Hp} {xs : List Addr} {a : Addr} {o : HO} (h : a ∈ xs) : hid (upd H a o) xs = hid H xs := by
  funext b
  unfold hid
  split
  · rfl
  · rename_i c
    exact upd_ne fun e => c (by rw [e]; exact h)
theorem hid_less {H : Hp} {xs ys : List Addr} (h : ∀ a ∈ xs, a ∈ ys) : Same (hid H ys) (hid H xs) := fun b o e => by
  unfold hid at e ⊢
  split at e
  · cases e
  · rename_i c
    rw [if_neg fun z => c (h b z)]
    exact e
/-- a value that is a row; a list of rows -/
def IsRow (H : Hp) (v : V) (r : Rw) : Prop := ∃ b, v = .ref b ∧ Lst H b r
abbrev Rows (H : Hp) : List V → List Rw → Prop := Paired (IsRow H)
def IsLv (H : Hp) (v : V) (L : List Rw) : Prop := ∃ b ws, v = .ref b ∧ H b = some (.lst ws) ∧ Rows H ws L
abbrev Lvs (H : Hp) : List V → List (List Rw) → Prop := Paired (IsLv H)
theorem IsRow.mono {H H' : Hp} (s : Lsts H H') {v : V} {r : Rw} (h : IsRow H v r) : IsRow H' v r := by
  obtain ⟨b, e, h⟩ := h
  exact ⟨b, e, s _ _ h⟩
theorem Rows.mono {H H' : Hp} (s : Lsts H H') {vs : List V} {L : List Rw} (h : Rows H vs L) : Rows H' vs L := Paired.mapP h fun _ _ q => q.mono s
theorem IsLv.mono {H H' : Hp} (s : Lsts H H') {v : V} {L : List Rw} (h : IsLv H v L) : IsLv H' v L := by
  obtain ⟨b, ws, e, h, r⟩ := h
  exact ⟨b, ws, e, s _ _ h, r.mono s⟩
theorem Lvs.mono {H H' : Hp} (s : Lsts H H') {vs : List V} {L : List (List Rw)} (h : Lvs H vs L) : Lvs H' vs L := Paired.mapP h fun _ _ q => q.mono s
theorem pd_app {α β : Type} {F : α → β → Prop} : ∀ {vs ws : List α} {ps qs : List β}, Paired F vs ps → Paired F ws qs → Paired F (vs ++ ws) (ps ++ qs)
  | _, _, _, _, .nil, h => h
  | _, _, _, _, .cons r t, h => .cons r (pd_app t h)
theorem pd_at {α β : Type} {F : α → β → Prop} : ∀ {vs : List α} {ps : List β} {i : Nat} {v : α}, Paired F vs ps → vs[i]? = some v → ∃ p, ps[i]? = some p ∧ F v p
  | _, _, _, _, .nil, e => by simp at e
  | _, _, 0, _, .cons r _, e => by simp at e; subst e; exact ⟨_, rfl, r⟩
  | _, _, i + 1, v, .cons _ t, e => by
    obtain ⟨p, h1, h2⟩ := pd_at (i := i) (v := v) t (by simpa using e)
    exact ⟨p, by simpa using h1, h2⟩
theorem pd_len {α β : Type} {F : α → β → Prop} {vs : List α} {ps : List β} (h : Paired F vs ps) : vs.length = ps.length := Paired.length h
end EG

/-! Evenings one behind another; what is kept; entries of a row and its evenings. -/
namespace EG
open PySem L2
def stepE (r : Rw) (p : Pr) : Option Rw := if p ∈ evs r then some (behP r p) else none
def rbeh (ns : Rw) (ps : List Pr) : Option Rw := ps.foldl (fun o p => o.bind (stepE · p)) (some ns)
theorem rbeh_nil (ns : Rw) : rbeh ns [] = some ns := rfl
theorem rbeh_snoc (ns : Rw) (ps : List Pr) (p : Pr) : rbeh ns (ps ++ [p]) = (rbeh ns ps).bind (stepE · p) := by
  unfold rbeh
  rw [List.foldl_append]
  rfl
theorem fold_none : ∀ ps : List Pr, ps.foldl (fun o p => o.bind (stepE · p)) (none : Option Rw) = none
  | [] => rfl
  | _ :: ps => fold_none ps
theorem rbeh_app_none {ns : Rw} {ps : List Pr} (qs : List Pr) (h : rbeh ns ps = none) : rbeh ns (ps ++ qs) = none := by
  unfold rbeh at h ⊢
  rw [List.foldl_append, h]
  exact fold_none qs
theorem rbeh_take {ns : Rw} {ps : List Pr} {i : Nat} {p : Pr} (h : ps[i]? = some p) : rbeh ns (ps.take (i + 1)) = (rbeh ns (ps.take i)).bind (stepE · p) := by
  rw [List.take_add_one, h]
  exact rbeh_snoc ns _ p
theorem rbeh_none {ns : Rw} {ps : List Pr} {i : Nat} (h : rbeh ns (ps.take i) = none) : rbeh ns ps = none := by
  have := rbeh_app_none (ps.drop i) h
  rwa [List.take_append_drop] at this
theorem rbeh_step {ns q : Rw} {ps : List Pr} {p : Pr} (h : rbeh ns ps = some q) (hp : p ∈ evs q) : rbeh ns (ps ++ [p]) = some (behP q p) := by
  rw [rbeh_snoc, h]
  exact if_pos hp
theorem rbeh_rch {ns : Rw} : ∀ (n : Nat) {ps : List Pr} {r : Rw}, ps.length = n → rbeh ns ps = some r → Rch ns n r
  | 0, ps, r, hl, h => by
    have e : ps = [] := List.length_eq_zero_iff.mp hl
    subst e
    cases h
    exact .zero _
  | n + 1, ps, r, hl, h => by
    have hne : ps ≠ [] := fun e => by subst e; cases hl
    have e := List.dropLast_concat_getLast hne
    rw [← e, rbeh_snoc] at h
    cases e2 : rbeh ns ps.dropLast with
    | none => rw [e2] at h; cases h
    | some q =>
      rw [e2] at h
      have h2 : stepE q (ps.getLast hne) = some r := h
      unfold stepE at h2
      split at h2
      · rename_i c
        cases h2
        exact .step (rbeh_rch n (by rw [List.length_dropLast]; omega) e2) c
      · cases h2
def alikeB (r : Rw) : Bool := decide ((dcount r : Int) = 1)
/-- lists and tuples stand as before -/
structure Keep (H H' : Hp) : Prop where
  l : Lsts H H'
  t : TupS H H'
theorem Keep.refl (H : Hp) : Keep H H := ⟨.refl H, .refl H⟩
theorem Keep.trans {H H1 H2 : Hp} (a : Keep H H1) (b : Keep H1 H2) : Keep H H2 := ⟨a.l.trans b.l, a.t.trans b.t⟩
theorem Same.keep {H H' : Hp} (s : Same H H') : Keep H H' := ⟨Same.lsts s, Same.tups s⟩
theorem keep_dT {H : Hp} {p : Addr} {kvs : List (List Key × V)} {o : HO} (h : H p = some (.dT kvs)) : Keep H (upd H p o) := ⟨lsts_dT h, tups_dT h⟩
theorem hid_keep {H H' : Hp} {xs : List Addr} (s : Keep H H') : Keep (hid H xs) (hid H' xs) := ⟨hid_lsts s.l, fun b o e => by
  unfold hid at e ⊢
  split at e
  · cases e
  · rename_i c
    rw [if_neg c]
    exact s.t _ _ e⟩
/-- a list is changed that did not stand ahead -/
theorem keep_upd {H H' : Hp} {p : Addr} {o : HO} (s : Keep H H') (h : H p = none) : Keep H (upd H' p o) := ⟨fun b xs e => by
  rw [upd_ne (ne_of_none e h)]; exact s.l _ _ e, fun b xs e => by
  rw [upd_ne (ne_of_none e h)]; exact s.t _ _ e⟩
abbrev En := Rw × List Pr
def IsEn (H : Hp) (v : V) (e : En) : Prop := ∃ t b g ps, v = .ref t ∧ H t = some (.tup [.ref b, .ref g]) ∧ Lst H b e.1 ∧ H g = some (.lst ps) ∧ Prs H ps e.2
abbrev Ens (H : Hp) : List V → List En → Prop := Paired (IsEn H)
theorem IsEn.mono {H H' : Hp} (s : Keep H H') {v : V} {e : En} (h : IsEn H v e) : IsEn H' v e := by
  obtain ⟨t, b, g, ps, ev, h1, h2, h3, h4⟩ := h
  exact ⟨t, b, g, ps, ev, s.t _ _ h1, s.l _ _ h2, s.l _ _ h3, h4.mono s.t⟩
theorem Ens.mono {H H' : Hp} (s : Keep H H') {vs : List V} {es : List En} (h : Ens H vs es) : Ens H' vs es := Paired.mapP h fun _ _ q => q.mono s
def enD (e : En) : PyData := .tuple [rowD e.1, prsD e.2]
section
variable {K : PySem.W.Frag} {H : Hp}
theorem dp_en {v : V} {e : En} (h : IsEn H v e) : Dp K H v (enD e) := by
  obtain ⟨t, b, g, ps, rfl, h1, h2, h3, h4⟩ := h
  exact .tup (SqT.of h1) (.cons (dp_row h2.sq) (.cons (dp_prs (SqL.of h3) h4) .nil))
theorem dpa_ens : ∀ {vs : List V} {es : List En}, Ens H vs es → DpAll K H vs (es.map enD)
  | _, _, .nil => .nil
  | _, _, .cons r t => .cons (dp_en r) (dpa_ens t)
end
theorem depth_row (ns : List Int) : (rowD ns).depth ≤ 1 := by
  have h := (lay_ints ns).2
  simp only [rowD, PyData.depth]
  omega
theorem depth_prs (ps : List Pr) : (prsD ps).depth ≤ 2 := by
  have h := (lay_prs ps).2
  simp only [prsD, PyData.depth]
  omega
theorem lay_row (ns : List Int) : (rowD ns).canLay0 = true := by simp only [rowD, PyData.canLay0]; exact (lay_ints ns).1
theorem lay_prsD (ps : List Pr) : (prsD ps).canLay0 = true := by simp only [prsD, PyData.canLay0]; exact (lay_prs ps).1
theorem lay_ens : ∀ es : List En, PyData.canLayAll0 (es.map enD) = true ∧ PyData.depthAll (es.map enD) ≤ 3
  | [] => by simp [PyData.canLayAll0, PyData.depthAll]
  | e :: es => by
    have ih := lay_ens es
    have h1 := depth_row e.1
    have h2 := depth_prs e.2
    refine ⟨by simp [PyData.canLayAll0, ih.1, enD, PyData.canLay0, lay_row, lay_prsD], ?_⟩
    simp only [List.map_cons, PyData.depthAll, enD, PyData.depth]
    omega
theorem shaped_ens (es : List En) : SeqAt.shaped (.list (es.map enD)) = true := by
  have h := lay_ens es
  unfold SeqAt.shaped
  rw [Bool.and_eq_true]
  refine ⟨by simp only [PyData.canLay0]; exact h.1, decide_eq_true ?_⟩
  simp only [PyData.depth]
  omega
theorem shaped_nil : SeqAt.shaped (.list []) = true := by decide
theorem eqv_nil (ds : List PyData) : PyData.eqv (.list ds) (.list []) = decide (ds = []) := by
  cases ds with
  | nil => simp [PyData.eqv, PyData.eqvAll]
  | cons d ds => simp [PyData.eqv, PyData.eqvAll]
end EG

/-! row_behind, are_alike, way_to_alike. -/
namespace EG
open PySem L2
section
variable {P : Program} {w : World} {K : PySem.W.Frag} {mg : Str → Option Value} {base : Heap}
def sp_row_behind (K : PySem.W.Frag) : Sp := fun vs H Q _ => ∃ (a g : Addr) (ns : List Int) (ws : List V) (ps : List Pr), vs = [.ref a, .ref g] ∧ SqL K H a (ns.map V.int) ∧ ns.length ≤ 12 ∧ H g = some (.lst ws) ∧ Prs H ws ps ∧
  ∀ H' o, Same H H' → SqL K H' o (((rbeh ns ps).getD []).map V.int) → Q (.ref o) H'
theorem ok_row_behind {f : Addr} {fd : FuncData} (F : Fun K "row_behind" "row_behind" s_row_behind f fd) (c_evenings_of : Cal CX0 P w K mg base "evenings_of" ["row"] 1 (sp_evenings_of K))
    (c_behind : Cal CX0 P w K mg base "behind" ["row", "evening"] 1 (sp_behind K)) : FnOk P w K mg base CX0 2 f fd ["row", "some"] (sp_row_behind K) := by
  refine F.ok sc_row_behind (fun vs H Q E h => ?_) (fun cdv A outer s H vs Q E hr h => ?_)
  · obtain ⟨a, g, ns, ws, ps, rfl, _⟩ := h
    rfl
  · obtain ⟨a, g, ns, ws, ps, rfl, hS, hl, hg, pr, q⟩ := h
    refine ⟨_, (pss_cons (ps_for PassesOwn.never rfl (pi_list (pv 1)) (pg_name (i := 2) sc_row_behind.nd rfl (.inl rfl))
    (pss_cons (ps_if (pt_cmpR (r := rNotInD K) (op_notInD (room65 hr)) (pv 2) (pe_cal c_evenings_of hr (by rfl) (pa_cons (pv 0) pa_nil)) (by rfl))
      (pss_one (ps_ret (pe_lst pa_nil)))
      pss_nil)
      (pss_one (ps_set (i := 0) sc_row_behind.nd rfl (.inl rfl) (pe_cal c_behind hr (by rfl) (pa_cons (pv 0) (pa_cons (pv 2) pa_nil)))))))
    (pss_one (ps_ret (pv 0)))), ?_⟩
    refine ⟨.ref g, rfl, g, rfl, ⟨_, SqL.of hg⟩, for_list (K := K) (a := g) (xs := ws)
      (fun i σ H' => ∃ o ms y, σ = [some (.ref o), some (.ref g), y] ∧ Same H H' ∧ SqL K H' o (ms.map V.int) ∧ rbeh ns (ps.take i) = some ms ∧ ms.length ≤ 12)
      ⟨a, ns, none, rfl, Same.refl _, hS, rfl, hl⟩ (fun i σ H' _ h => ?_) (fun i x σ H1 hx h => ?_) (fun σ H1 h => ?_)⟩
    · obtain ⟨_, _, _, _, s1, _⟩ := h
      exact SqL.of (s1 _ _ hg)
    · obtain ⟨o, ms, y, rfl, s1, hO, hrb, hlm⟩ := h
      obtain ⟨p, hp, t, rfl, ht⟩ := prs_at pr hx
      have ht1 := s1 _ _ ht
      refine ⟨.ref t, rfl, .ref o, rfl, o, ms, rfl, hO, hlm, fun H2 z ws2 s2 hz hz2 pz => ?_⟩
      refine ⟨prD p, (evs ms).map prD, dp_prT (SqT.of (s2 _ _ ht1)), dp_prs (SqL.of hz2) pz, shaped_pr _, shaped_prs _, _, rfl, ?_⟩
      rw [any_prs]
      by_cases c : p ∈ evs ms
      · rw [decide_eq_true c]
        refine iteF ?_
        obtain ⟨i', j', ep, hij, hj, hgd⟩ := mem_evs.mp c
        subst ep
        refine ⟨.ref o, rfl, .ref t, rfl, o, t, ms, i', j', rfl, s2.seq hO, SqT.of (s2 _ _ ht1), by omega, hj, hlm, fun H3 u s3 hu hU => ?_⟩
        refine ⟨u, _, _, rfl, (s1.trans s2).trans s3, hU.sq, ?_, by rw [beh_length]; exact hlm⟩
        rw [rbeh_take hp, hrb]
        exact if_pos c
      · rw [decide_eq_false c]
        refine iteT ?_
        refine ⟨Nat.zero_le _, fun l hl2 => ?_⟩
        refine q _ l ((s1.trans s2).trans (same_new hl2)) ?_
        have e : rbeh ns ps = none := by
          refine rbeh_none (i := i + 1) ?_
          rw [rbeh_take hp, hrb]
          exact if_neg c
        rw [e]
        exact SqL.of upd_same
    · obtain ⟨o, ms, y, rfl, s1, hO, hrb, hlm⟩ := h
      rw [List.take_of_length_le (by rw [pd_len pr]; exact Nat.le_refl _)] at hrb
      refine ⟨.ref o, rfl, q H1 o s1 ?_⟩
      rw [hrb]
      exact hO
def sp_are_alike (K : PySem.W.Frag) : Sp := fun vs H Q _ => ∃ (a : Addr) (ns : List Int), vs = [.ref a] ∧ SqL K H a (ns.map V.int) ∧ ns.length ≤ 4000 ∧ Q (.bl (alikeB ns)) H
theorem ok_are_alike {f : Addr} {fd : FuncData} (F : Fun K "are_alike" "are_alike" s_are_alike f fd) (B : Blt mg) : FnOk P w K mg base CX0 1 f fd ["row"] (sp_are_alike K) := by
  refine F.ok sc_are_alike (fun vs H Q E h => ?_) (fun cdv A outer s H vs Q E hr h => ?_)
  · obtain ⟨a, ns, rfl, _⟩ := h
    rfl
  · obtain ⟨a, ns, rfl, hS, hl, q⟩ := h
    refine ⟨_, (pss_one (ps_ret (pe_cmpR op_eq (pe_lenSetG (by rfl) B.len (by rfl) B.set (pv 0)) pe_int (nomark _)))), ?_⟩
    refine ⟨.ref a, rfl, a, ns, rfl, hS, hl, rfl, ?_⟩
    rw [dec_int]
    exact q
def sp_way : Sp := fun vs H Q _ => ∃ (a : Addr) (ns : List Int), vs = [.ref a] ∧ Lst H a ns ∧ Small ns ∧
  (∀ H', Same H H' → (∀ n r, Rch ns n r → alikeB r = false) → Q .non H') ∧
  ∀ H' g ps path r, Same H H' → H' g = some (.lst ps) → Prs H' ps path → rbeh ns path = some r → alikeB r = true → (∀ n r', n < path.length → Rch ns n r' → alikeB r' = false) → Q (.ref g) H'
theorem ok_way {f : Addr} {fd : FuncData} (F : Fun K "way_to_alike" "way_to_alike" s_way_to_alike f fd) (B : Blt mg) (c_evenings_of : Cal CX0 P w K mg base "evenings_of" ["row"] 1 (sp_evenings_of K))
    (c_behind : Cal CX0 P w K mg base "behind" ["row", "evening"] 1 (sp_behind K)) (c_are_alike : Cal CX0 P w K mg base "are_alike" ["row"] 1 (sp_are_alike K)) : FnOk P w K mg base CX0 2 f fd ["row"] sp_way := by
  refine F.ok sc_way_to_alike (fun vs H Q E h => ?_) (fun cdv A outer s H vs Q E hr h => ?_)
  · obtain ⟨a, ns, rfl, _⟩ := h
    rfl
  · obtain ⟨a, ns, rfl, hS, ok, qN, qA⟩ := h
    refine ⟨_, (pss_cons (ps_par (i := 1) (j := 2) rfl sc_way_to_alike.nd rfl rfl (by decide) rfl rfl (pa_cons (pe_lst (pa_cons (pe_tup (pa_cons (pv 0) (pa_cons (pe_lst pa_nil) pa_nil))) pa_nil)) (pa_cons (pe_dispT (hu_of hr) (pe_callTy (r := rTupOf K) call_tuple_of (by rfl) B.tuple PyProof.Rows.boot_tuple (pa_cons (pv 0) pa_nil)) pe_bl) pa_nil)) (by rfl))
    (pss_cons (ps_while PassesOwn.never (pt_cmpR (r := rNeD K) (op_neD hr.units) (pv 1) (pe_lst pa_nil) (nomark _))
    (pss_cons (ps_set (i := 3) sc_way_to_alike.nd rfl (.inl rfl) (pe_lst pa_nil))
      (pss_cons (ps_for PassesOwn.never rfl (pi_list (pv 1)) (pg_tup rfl (pgs_cons (pg_name (i := 4) sc_way_to_alike.nd rfl (.inl rfl)) (pgs_cons (pg_name (i := 5) sc_way_to_alike.nd rfl (.inl rfl)) pgs_nil)))
      (pss_cons (ps_if (pt_val (pe_cal c_are_alike hr (by rfl) (pa_cons (pv 4) pa_nil)))
        (pss_one (ps_ret (pv 5)))
        pss_nil)
        (pss_one (ps_for PassesOwn.never rfl (pi_list (pe_cal c_evenings_of hr (by rfl) (pa_cons (pv 4) pa_nil))) (pg_name (i := 6) sc_way_to_alike.nd rfl (.inl rfl))
        (pss_cons (ps_set (i := 7) sc_way_to_alike.nd rfl (.inl rfl) (pe_cal c_behind hr (by rfl) (pa_cons (pv 4) (pa_cons (pv 6) pa_nil))))
          (pss_one (ps_if (pt_cmp (pc_dnotin (hu_of hr) (pe_callTy (r := rTupOf K) call_tuple_of (by rfl) B.tuple PyProof.Rows.boot_tuple (pa_cons (pv 7) pa_nil)) (pv 2)))
          (pss_cons (ps_dput (hu_of hr) (pv 2) (pe_callTy (r := rTupOf K) call_tuple_of (by rfl) B.tuple PyProof.Rows.boot_tuple (pa_cons (pv 7) pa_nil)) pe_bl rfl)
            (pss_one (ps_expr (pe_bm PySem.F.plainAttrs_list PySem.F.slot_list_append PySem.F.type_list_append mt_append (pv 3) (pa_cons (pe_tup (pa_cons (pv 7) (pa_cons (pe_op op_cat (pv 5) (pe_lst (pa_cons (pv 6) pa_nil))) pa_nil))) pa_nil)))))
          pss_nil)))))))
      (pss_one (ps_set (i := 1) sc_way_to_alike.nd rfl (.inl rfl) (pv 3))))))
    (pss_one (ps_ret pe_non)))), ?_⟩
    -- line, met
    refine ⟨.ref a, rfl, Nat.zero_le _, fun g0 hg0 => ⟨(by show 2 ≤ sizeLine; decide), fun t0 ht0 => ⟨(by show 1 ≤ sizeLine; decide), fun li hli => ?_⟩⟩⟩
    have s0 : Same H (upd (upd (upd H g0 (.lst [])) t0 (.tup [.ref a, .ref g0])) li (.lst [.ref t0])) := ((same_new hg0).trans (same_new ht0)).trans (same_new hli)
    have hg1 : (upd (upd (upd H g0 (.lst [])) t0 (.tup [.ref a, .ref g0])) li (.lst [.ref t0])) g0 = some (.lst []) := (same_new hli) _ _ ((same_new ht0) _ _ upd_same)
    have ht1 : (upd (upd (upd H g0 (.lst [])) t0 (.tup [.ref a, .ref g0])) li (.lst [.ref t0])) t0 = some (.tup [.ref a, .ref g0]) := (same_new hli) _ _ upd_same
    have hli1 : (upd (upd (upd H g0 (.lst [])) t0 (.tup [.ref a, .ref g0])) li (.lst [.ref t0])) li = some (.lst [.ref t0]) := upd_same
    generalize upd (upd (upd H g0 (.lst [])) t0 (.tup [.ref a, .ref g0])) li (.lst [.ref t0]) = H1 at s0 hg1 ht1 hli1
    refine fun me hme => ?_
    have hmeH : H me = none := s0.free hme
    have s2 : Same H1 (upd H1 me (.dT [])) := same_new hme
    refine ⟨.ref a, rfl, a, _, rfl, .inl ⟨((hS.mono s0).mono s2).sq, fun t ht => ?_⟩⟩
    have s3 : Same (upd H1 me (.dT [])) (upd (upd H1 me (.dT [])) t (.tup (ns.map V.int))) := same_new ht
    have hme3 := s3 _ _ (show (upd H1 me (.dT [])) me = some (.dT []) from upd_same)
    refine ⟨t, rowKey ns, rfl, hme3, by rw [rowKey_V]; exact upd_same, _, _, rfl, ?_⟩
    have k4 : Keep H1 (upd (upd (upd H1 me (.dT [])) t (.tup (ns.map V.int))) me (.dT [(rowKey ns, .bl true)])) := (Same.keep (s2.trans s3)).trans (keep_dT hme3)
    have s4 : Same H (upd (upd (upd H1 me (.dT [])) t (.tup (ns.map V.int))) me (.dT [(rowKey ns, .bl true)])) := same_upd2 ((s0.trans s2).trans s3) hmeH
    have hme4 : (upd (upd (upd H1 me (.dT [])) t (.tup (ns.map V.int))) me (.dT [(rowKey ns, .bl true)])) me = some (.dT (dRows [ns])) := upd_same
    generalize upd (upd (upd H1 me (.dT [])) t (.tup (ns.map V.int))) me (.dT [(rowKey ns, .bl true)]) = H4 at k4 s4 hme4
    refine ⟨fun m σ H' => ∃ n li ws es M y3 y4 y5 y6 y7, ∃ Pc : Rw → Prop, n + m = (sq ns).toNat + 2 ∧ σ = [some (.ref a), some (.ref li), some (.ref me), y3, y4, y5, y6, y7] ∧ Same H H' ∧ H' li = some (.lst ws) ∧ Ens H' ws es ∧
        H' me = some (.dT (dRows M)) ∧ M.Nodup ∧ (∀ x ∈ M, ∃ k, Rch ns k x) ∧ (∀ r, Pc r → alikeB r = false ∧ ∀ p ∈ evs r, behP r p ∈ M) ∧ (∀ k r, k < n → Rch ns k r → Pc r) ∧ (∀ r, Rch ns n r → r ∈ M) ∧
        (∀ r ∈ M, Pc r ∨ ∃ path, (r, path) ∈ es) ∧ ∀ e ∈ es, rbeh ns e.2 = some e.1 ∧ e.2.length = n,
      ⟨(sq ns).toNat + 2, 0, li, _, [(ns, [])], [ns], none, none, none, none, none, fun _ => False, by omega, rfl, s4, k4.l _ _ hli1, .cons ⟨t0, a, g0, [], rfl, k4.t _ _ ht1, hS.mono s4, k4.l _ _ hg1, .nil⟩ .nil, hme4,
        List.nodup_cons.mpr ⟨List.not_mem_nil, List.nodup_nil⟩, fun x hx => ?_, fun _ z => z.elim, fun k r hk _ => absurd hk (by omega), fun r hr => ?_, fun r hr => ?_, fun e he => ?_⟩, fun m σ H5 h => ?_⟩
    · rw [List.mem_singleton.mp hx]
      exact ⟨0, .zero _⟩
    · cases hr
      exact List.mem_singleton.mpr rfl
    · rw [List.mem_singleton.mp hr]
      exact .inr ⟨[], List.mem_singleton.mpr rfl⟩
    · rw [List.mem_singleton.mp he]
      exact ⟨rfl, rfl⟩
    · obtain ⟨n, li, ws, es, M, y3, y4, y5, y6, y7, Pc, em, rfl, s5, hli5, en5, hme5, ndM, mR, pA, pB, pB2, pC, pD⟩ := h
      -- line != []
      refine ⟨.ref li, rfl, Nat.zero_le _, fun z hz => ?_⟩
      have s6 : Same H5 (upd H5 z (.lst [])) := same_new hz
      refine ⟨.list (es.map enD), .list [], .lst (SqL.of (s6 _ _ hli5)) (dpa_ens (en5.mono (Same.keep s6))), .lst (SqL.of upd_same) .nil, shaped_ens _, shaped_nil, _, rfl, ?_⟩
      rw [eqv_nil]
      have s7 : Same H (upd H5 z (.lst [])) := s5.trans s6
      have hli6 := s6 _ _ hli5
      have hme6 := s6 _ _ hme5
      have en6 := en5.mono (Same.keep s6)
      generalize upd H5 z (.lst []) = H6 at s7 hli6 hme6 en6
      by_cases ce : es = []
      · -- none
        subst ce
        refine itN (by simp) ?_
        refine qN H6 s7 fun k r hk => ?_
        have all : ∀ k r, Rch ns k r → Pc r := by
          intro k r hk
          have inM : ∀ x ∈ M, Pc x := fun x hx => by
            rcases pC x hx with h | ⟨_, h⟩
            · exact h
            · cases h
          induction hk with
          | zero =>
            rcases Nat.eq_zero_or_pos n with h0 | h0
            · subst h0
              exact inM _ (pB2 _ (.zero _))
            · exact pB 0 _ h0 (.zero _)
          | step h hp ih => exact inM _ ((pA _ ih).2 _ hp)
        exact (pA r (all k r hk)).1
      · refine itP (by rw [decide_eq_false (fun z => ce (List.map_eq_nil_iff.mp z))]; rfl) ?_
        have hn : n ≤ (sq ns).toNat := by
          obtain ⟨e, es', rfl⟩ := List.exists_cons_of_ne_nil ce
          obtain ⟨h1, h2⟩ := pD e List.mem_cons_self
          exact (rbeh_rch n h2 h1).bound
        have hsq := ok.sq
        refine ⟨fun σ' H' => ∃ m', m' < m ∧ ∃ n li ws es M y3 y4 y5 y6 y7, ∃ Pc : Rw → Prop, n + m' = (sq ns).toNat + 2 ∧ σ' = [some (.ref a), some (.ref li), some (.ref me), y3, y4, y5, y6, y7] ∧ Same H H' ∧ H' li = some (.lst ws) ∧ Ens H' ws es ∧
          H' me = some (.dT (dRows M)) ∧ M.Nodup ∧ (∀ x ∈ M, ∃ k, Rch ns k x) ∧ (∀ r, Pc r → alikeB r = false ∧ ∀ p ∈ evs r, behP r p ∈ M) ∧ (∀ k r, k < n → Rch ns k r → Pc r) ∧ (∀ r, Rch ns n r → r ∈ M) ∧
          (∀ r ∈ M, Pc r ∨ ∃ path, (r, path) ∈ es) ∧ ∀ e ∈ es, rbeh ns e.2 = some e.1 ∧ e.2.length = n, fun σ' H' h => h, ?_⟩
        -- longer = []
        refine ⟨Nat.zero_le _, fun lo hlo => ?_⟩
        have s8 : Same H6 (upd H6 lo (.lst [])) := same_new hlo
        have hloH : H lo = none := s7.free hlo
        have hme7 := s8 _ _ hme6
        have hlo7 : (upd H6 lo (.lst [])) lo = some (.lst []) := upd_same
        generalize upd H6 lo (.lst []) = H7 at s8 hme7 hlo7
        have nlm : lo ≠ me := (ne_of_none hme6 hlo).symm
        refine ⟨.ref li, rfl, li, rfl, ⟨_, SqL.of (s8 _ _ hli6)⟩, for_list (K := K) (a := li) (xs := ws)
          (fun i σ H' => ∃ wl el M' y4 y5 y6 y7, σ = [some (.ref a), some (.ref li), some (.ref me), some (.ref lo), y4, y5, y6, y7] ∧ Same H H' ∧ Keep H6 H' ∧ H' lo = some (.lst wl) ∧ Ens (hid H' [lo]) wl el ∧ H' me = some (.dT (dRows M')) ∧
            M'.Nodup ∧ (∀ x ∈ M', ∃ k, Rch ns k x) ∧ (∀ x ∈ M, x ∈ M') ∧ (∀ x ∈ M', x ∈ M ∨ ∃ path, (x, path) ∈ el) ∧ (∀ e ∈ el, rbeh ns e.2 = some e.1 ∧ e.2.length = n + 1) ∧ el.length ≤ M'.length ∧
            ∀ k e, k < i → es[k]? = some e → alikeB e.1 = false ∧ ∀ p ∈ evs e.1, behP e.1 p ∈ M')
          ⟨[], [], M, _, _, _, _, rfl, s7.trans s8, Same.keep s8, hlo7, .nil, hme7, ndM, mR, fun _ h => h, fun _ h => .inl h, fun _ h => (nomatch h), Nat.zero_le _, fun k _ hk _ => absurd hk (by omega)⟩ (fun i σ H' _ h => ?_) (fun i x σ H8 hx h => ?_) (fun σ H8 h => ?_)⟩
        · obtain ⟨_, _, _, _, _, _, _, _, _, k8, _⟩ := h
          exact SqL.of (k8.l _ _ hli6)
        · obtain ⟨wl, el, M', y4, y5, y6, y7, rfl, s9, k9, hlo8, en8, hme8, nd8, mR8, sub8, or8, pD8, ll8, dn8⟩ := h
          obtain ⟨⟨r, path⟩, he, t, b, g, ps, rfl, ht, hb, hg, pr⟩ := pd_at en6 hx
          obtain ⟨rb, pl⟩ : rbeh ns path = some r ∧ path.length = n := pD _ (List.mem_of_getElem? he)
          have rch := rbeh_rch n pl rb
          have okr : Small r := rch.ok ok
          have hb8 : Lst H8 b r := k9.l _ _ hb
          have hg8 := k9.l _ _ hg
          refine ⟨t, _, rfl, SqT.of (k9.t _ _ ht), rfl, _, _, rfl, _, _, rfl, rfl, ?_⟩
          -- are they alike
          refine ⟨.ref b, rfl, b, r, rfl, hb8.sq, by have := okr.len5; omega, _, rfl, ?_⟩
          cases ca : alikeB r with
          | true =>
            refine iteT ⟨.ref g, rfl, qA H8 g ps path r s9 hg8 (pr.mono k9.t) rb ca fun k r' hk hr' => ?_⟩
            exact (pA r' (pB k r' (by omega) hr')).1
          | false =>
            refine iteF ?_
            refine ⟨.ref b, rfl, b, r, rfl, hb8.sq, okr.row12, fun H9 p we s10 hp hwe pe => ⟨p, rfl, ⟨_, SqL.of hwe⟩, ?_⟩⟩
            have nlp : lo ≠ p := ne_of_none hlo8 hp
            refine for_list (K := K) (a := p) (xs := we)
              (fun j σ H' => ∃ wl el M' y6 y7, σ = [some (.ref a), some (.ref li), some (.ref me), some (.ref lo), some (.ref b), some (.ref g), y6, y7] ∧ Same H H' ∧ Keep H6 H' ∧ H' lo = some (.lst wl) ∧ Ens (hid H' [lo]) wl el ∧ H' me = some (.dT (dRows M')) ∧
                M'.Nodup ∧ (∀ x ∈ M', ∃ k, Rch ns k x) ∧ (∀ x ∈ M, x ∈ M') ∧ (∀ x ∈ M', x ∈ M ∨ ∃ path, (x, path) ∈ el) ∧ (∀ e ∈ el, rbeh ns e.2 = some e.1 ∧ e.2.length = n + 1) ∧ el.length ≤ M'.length ∧
                (∀ k e, k < i → es[k]? = some e → alikeB e.1 = false ∧ ∀ p ∈ evs e.1, behP e.1 p ∈ M') ∧ (∀ k p, k < j → (evs r)[k]? = some p → behP r p ∈ M') ∧ H' p = some (.lst we) ∧ Prs H' we (evs r))
              ⟨wl, el, M', _, _, rfl, s9.trans s10, k9.trans (Same.keep s10), s10 _ _ hlo8, en8.mono (Same.keep (hid_mono s10)), s10 _ _ hme8, nd8, mR8, sub8, or8, pD8, ll8, dn8, fun k _ hk _ => absurd hk (by omega), hwe, pe⟩
              (fun j σ H' _ h => ?_) (fun j x σ HA hx2 h => ?_) (fun σ HA h => ?_)
            · obtain ⟨_, _, _, _, _, _, _, _, _, _, _, _, _, _, _, _, _, _, _, hpp, _⟩ := h
              exact SqL.of hpp
            · obtain ⟨wl, el, M', y6, y7, rfl, sA, kA, hloA, enA, hmeA, ndA, mRA, subA, orA, pDA, llA, dnA, jA, hpA, peA⟩ := h
              obtain ⟨pp, hpp, tt, rfl, htt⟩ := prs_at peA hx2
              have hpe := List.mem_of_getElem? hpp
              obtain ⟨i1, j1, epp, hij, hj1, hgd⟩ := mem_evs.mp hpe
              have hbA : Lst HA b r := kA.l _ _ hb
              refine ⟨.ref b, rfl, .ref tt, rfl, b, tt, r, i1, j1, rfl, hbA.sq, ?_, by omega, hj1, okr.row12, fun HB th sB hth hTh => ?_⟩
              · rw [epp] at htt
                exact SqT.of htt
              have eb : beh r i1 j1 = behP r pp := by rw [epp]; rfl
              rw [eb] at hTh
              have rch2 : Rch ns (n + 1) (behP r pp) := .step rch hpe
              have cnt : M'.length ≤ 4084101 := count_le ok ndA mRA
              -- tuple(there) not in met
              refine ⟨.ref th, rfl, th, _, rfl, .inl ⟨hTh.sq, fun t3 ht3 => ?_⟩⟩
              have sC : Same HB (upd HB t3 (.tup ((behP r pp).map V.int))) := same_new ht3
              have hmeC := sC _ _ (sB _ _ hmeA)
              have ht3C : (upd HB t3 (.tup ((behP r pp).map V.int))) t3 = some (.tup ((rowKey (behP r pp)).map kV)) := by rw [rowKey_V]; exact upd_same
              have sAC : Same HA (upd HB t3 (.tup ((behP r pp).map V.int))) := sB.trans sC
              have hThC := hTh.mono sC
              generalize upd HB t3 (.tup ((behP r pp).map V.int)) = HC at sC hmeC ht3C sAC hThC
              refine ⟨.ref me, rfl, me, _, rfl, DGet.t (k := rowKey (behP r pp)) hmeC ht3C, _, rfl, ?_⟩
              rw [val_dRows]
              have nloC := sAC _ _ hloA
              by_cases cM : behP r pp ∈ M'
              · refine itN (by rw [decide_eq_true cM]; decide) ?_
                refine ⟨wl, el, M', _, _, rfl, sA.trans sAC, kA.trans (Same.keep sAC), nloC, enA.mono (Same.keep (hid_mono sAC)), hmeC, ndA, mRA, subA, orA, pDA, llA, dnA, fun k p2 hk hk2 => ?_, sAC _ _ hpA, peA.mono (Same.tups sAC)⟩
                by_cases ek : k = j
                · subst ek
                  rw [hpp] at hk2
                  cases hk2
                  exact cM
                · exact jA k p2 (by omega) hk2
              · refine itP (by rw [decide_eq_false cM]; rfl) ?_
                -- met[tuple(there)] = True
                refine ⟨.ref me, rfl, .ref th, rfl, th, _, rfl, .inl ⟨hThC.sq, fun t4 ht4 => ?_⟩⟩
                have sD : Same HC (upd HC t4 (.tup ((behP r pp).map V.int))) := same_new ht4
                refine ⟨me, _, rfl, DPut.t (k := rowKey (behP r pp)) (sD _ _ hmeC) (by rw [rowKey_V]; exact upd_same) (lineB (by rw [dRows_length]; omega)), ?_⟩
                rw [put_dRows]
                have hmeD := sD _ _ hmeC
                have sE : Same H (upd (upd HC t4 (.tup ((behP r pp).map V.int))) me (.dT (dRows (ins M' (behP r pp))))) := same_upd2 ((sA.trans sAC).trans sD) hmeH
                have kE : Keep HA (upd (upd HC t4 (.tup ((behP r pp).map V.int))) me (.dT (dRows (ins M' (behP r pp))))) := (Same.keep (sAC.trans sD)).trans (keep_dT hmeD)
                have kE2 : Keep HC (upd (upd HC t4 (.tup ((behP r pp).map V.int))) me (.dT (dRows (ins M' (behP r pp))))) := (Same.keep sD).trans (keep_dT hmeD)
                have hmeE : (upd (upd HC t4 (.tup ((behP r pp).map V.int))) me (.dT (dRows (ins M' (behP r pp))))) me = some (.dT (dRows (ins M' (behP r pp)))) := upd_same
                generalize upd (upd HC t4 (.tup ((behP r pp).map V.int))) me (.dT (dRows (ins M' (behP r pp)))) = HE at sE kE kE2 hmeE
                have hloE := kE.l _ _ hloA
                have hThE : Lst HE th (behP r pp) := kE2.l _ _ hThC
                have nth : th ≠ lo := fun e => by rw [e] at hth; rw [hloA] at hth; cases hth
                -- gone + [evening]
                refine ⟨.ref lo, rfl, .inl ⟨rfl, _, SqL.of hloE⟩, .ref th, rfl, .ref g, rfl, .ref tt, rfl, (by show 1 ≤ sizeLine; decide), fun l1 hl1 => ?_⟩
                have sF : Same HE (upd HE l1 (.lst [.ref tt])) := same_new hl1
                have hgE := (kA.trans kE).l _ _ hg
                have lps : ps.length = path.length := pd_len pr
                refine ⟨g, l1, ps, [.ref tt], rfl, rfl, sF _ _ hgE, upd_same, Nat.le_of_lt (lineB (by rw [lps, pl]; show n + 1 ≤ 4100000; omega)), fun l2 hl2 => ?_⟩
                have sG : Same (upd HE l1 (.lst [.ref tt])) (upd (upd HE l1 (.lst [.ref tt])) l2 (.lst (ps ++ [.ref tt]))) := same_new hl2
                refine ⟨(by show 2 ≤ sizeLine; decide), fun t5 ht5 => ?_⟩
                have sH : Same (upd (upd HE l1 (.lst [.ref tt])) l2 (.lst (ps ++ [.ref tt]))) (upd (upd (upd HE l1 (.lst [.ref tt])) l2 (.lst (ps ++ [.ref tt]))) t5 (.tup [.ref th, .ref l2])) := same_new ht5
                have sEH : Same HE (upd (upd (upd HE l1 (.lst [.ref tt])) l2 (.lst (ps ++ [.ref tt]))) t5 (.tup [.ref th, .ref l2])) := (sF.trans sG).trans sH
                have h2H : (upd (upd (upd HE l1 (.lst [.ref tt])) l2 (.lst (ps ++ [.ref tt]))) t5 (.tup [.ref th, .ref l2])) l2 = some (.lst (ps ++ [.ref tt])) := sH _ _ upd_same
                have h5H : (upd (upd (upd HE l1 (.lst [.ref tt])) l2 (.lst (ps ++ [.ref tt]))) t5 (.tup [.ref th, .ref l2])) t5 = some (.tup [.ref th, .ref l2]) := upd_same
                have n2 : l2 ≠ lo := fun e => by rw [e] at hl2; rw [sF _ _ hloE] at hl2; cases hl2
                have n5 : t5 ≠ lo := fun e => by rw [e] at ht5; rw [(sF.trans sG) _ _ hloE] at ht5; cases ht5
                generalize upd (upd (upd HE l1 (.lst [.ref tt])) l2 (.lst (ps ++ [.ref tt]))) t5 (.tup [.ref th, .ref l2]) = HH at sEH h2H h5H
                have hloH2 := sEH _ _ hloE
                have lwl : wl.length = el.length := pd_len enA
                refine ⟨lo, wl, _, rfl, rfl, hloH2, lineB (by omega), ?_⟩
                have eM : ins M' (behP r pp) = M' ++ [behP r pp] := if_neg cM
                rw [eM] at hmeE
                have nm2 : me ≠ lo := nlm.symm
                refine ⟨wl ++ [.ref t5], el ++ [(behP r pp, path ++ [pp])], M' ++ [behP r pp], _, _, rfl, same_upd2 (sE.trans sEH) hloH, keep_upd ((kA.trans kE).trans (Same.keep sEH)) hlo, upd_same, ?_, ?_, ?_, ?_, fun x hx => List.mem_append_left _ (subA x hx), ?_, ?_, ?_, ?_, ?_, ?_, ?_⟩
                · rw [hid_upd (by simp)]
                  refine pd_app (enA.mono ((hid_keep kE).trans (Same.keep (hid_mono sEH)))) (.cons ⟨t5, th, l2, ps ++ [.ref tt], rfl, ?_, ?_, ?_, ?_⟩ .nil)
                  · rw [hid_out (by simp [n5])]
                    exact h5H
                  · unfold Lst
                    rw [hid_out (by simp [nth])]
                    exact sEH _ _ hThE
                  · rw [hid_out (by simp [n2])]
                    exact h2H
                  · refine prs_app ?_ (.cons ⟨tt, rfl, ?_⟩ .nil)
                    · refine (pr.mono (H' := hid HH [lo]) fun bq xs hq => ?_)
                      rw [hid_out (by simp; exact ne_of_none hq hlo)]
                      exact sEH _ _ ((kA.trans kE).t _ _ hq)
                    · rw [hid_out (by simp; exact ne_of htt hloA (by intro z; cases z))]
                      exact sEH _ _ (kE.t _ _ htt)
                · rw [upd_ne nm2]
                  exact sEH _ _ hmeE
                · rw [← eM]
                  exact nd_ins ndA
                · intro x hx
                  rcases List.mem_append.mp hx with hx | hx
                  · exact mRA x hx
                  · rw [List.mem_singleton.mp hx]
                    exact ⟨n + 1, rch2⟩
                · intro x hx
                  rcases List.mem_append.mp hx with hx | hx
                  · rcases orA x hx with h | ⟨pa, h⟩
                    · exact .inl h
                    · exact .inr ⟨pa, List.mem_append_left _ h⟩
                  · rw [List.mem_singleton.mp hx]
                    exact .inr ⟨path ++ [pp], List.mem_append_right _ (List.mem_singleton.mpr rfl)⟩
                · intro e he2
                  rcases List.mem_append.mp he2 with he2 | he2
                  · exact pDA e he2
                  · rw [List.mem_singleton.mp he2]
                    exact ⟨rbeh_step rb hpe, by show (path ++ [pp]).length = n + 1; rw [List.length_append]; show path.length + 1 = n + 1; omega⟩
                · rw [List.length_append, List.length_append]
                  exact Nat.add_le_add_right llA _
                · intro k e hk hk2
                  obtain ⟨h1, h2⟩ := dnA k e hk hk2
                  exact ⟨h1, fun p2 hp2 => List.mem_append_left _ (h2 p2 hp2)⟩
                · intro k p2 hk hk2
                  by_cases ek : k = j
                  · subst ek
                    rw [hpp] at hk2
                    cases hk2
                    exact List.mem_append_right _ (List.mem_singleton.mpr rfl)
                  · exact List.mem_append_left _ (jA k p2 (by omega) hk2)
                · rw [upd_ne nlp.symm]
                  exact sEH _ _ (kE.l _ _ hpA)
                · exact (peA.mono kE.t).mono ((Same.tups sEH).trans (tups_lst hloH2))
            · obtain ⟨wl, el, M', y6, y7, rfl, sA, kA, hloA, enA, hmeA, ndA, mRA, subA, orA, pDA, llA, dnA, jA, hpA, peA⟩ := h
              refine ⟨wl, el, M', _, _, _, _, rfl, sA, kA, hloA, enA, hmeA, ndA, mRA, subA, orA, pDA, llA, fun k e hk hk2 => ?_⟩
              by_cases ek : k = i
              · subst ek
                rw [he] at hk2
                cases hk2
                refine ⟨ca, fun p2 hp2 => ?_⟩
                obtain ⟨k2, hk3⟩ := List.mem_iff_getElem?.mp hp2
                have := (List.getElem?_eq_some_iff.mp hk3).1
                exact jA k2 p2 (by rw [pd_len pe]; exact this) hk3
              · exact dnA k e (by omega) hk2
        · obtain ⟨wl, el, M', y4, y5, y6, y7, rfl, s9, k9, hlo8, en8, hme8, nd8, mR8, sub8, or8, pD8, ll8, dn8⟩ := h
          refine ⟨.ref lo, rfl, ?_⟩
          have lw : ws.length = es.length := pd_len en6
          have done : ∀ r path, (r, path) ∈ es → alikeB r = false ∧ ∀ p ∈ evs r, behP r p ∈ M' := fun r path hm => by
            obtain ⟨k, hk⟩ := List.mem_iff_getElem?.mp hm
            have := (List.getElem?_eq_some_iff.mp hk).1
            exact dn8 k _ (by omega) hk
          have nxt : ∀ r, Rch ns n r → Pc r ∨ ∃ path, (r, path) ∈ es := fun r hr => pC r (pB2 r hr)
          refine ⟨m - 1, by omega, n + 1, lo, wl, el, M', _, _, _, _, _, fun r => Pc r ∨ ∃ path, (r, path) ∈ es, by omega, rfl, s9, hlo8, en8.mono (Same.keep (hid_same _ _)), hme8, nd8, mR8, ?_, ?_, ?_, ?_, pD8⟩
          · rintro r (h | ⟨path, h⟩)
            · exact ⟨(pA r h).1, fun p hp => sub8 _ ((pA r h).2 p hp)⟩
            · exact done r path h
          · intro k r hk hr
            by_cases ek : k = n
            · subst ek
              exact nxt r hr
            · exact .inl (pB k r (by omega) hr)
          · intro r hr
            cases hr with
            | @step q _ p hq hp =>
              rcases nxt q hq with h | ⟨path, h⟩
              · exact sub8 _ ((pA q h).2 p hp)
              · exact (done q path h).2 p hp
          · intro r hr
            rcases or8 r hr with h | h
            · exact .inl (pC r h)
            · exact .inr h
end
end EG

/-! The answers' classes: made, asked. -/
namespace EG
open PySem PySem.Spec PyProof.Rows L2
/-- C(), a class without an own __init__ -/
def tMakeN (C : Addr) : TE := fun _ H Q => ∀ x dx, H x = none → H dx = none → dx ≠ x → Q (.ref x) (upd (upd H dx (.own x)) x (.ins C dx []))
section
variable {X : Cx} {C : Addr} {x : Str} {p pos : Pos}
theorem pe_makeN (mk : PySem.W.makesIn X.K C = true) (hi : PySem.W.findIn X.K (.ref C) "__init__" = some (some (.builtin "object.__init__"))) (kp : PySem.W.keepIn X.K (.ref C) = true) (hg : Gl X x) (hm : X.mg x = some (.ref C))
    (hdb : (x == ("__debug__" : Str)) = false := by decide) : PE X (.Call (.Name x p) [] [] pos) (tMakeN C) := by
  refine ⟨fun pins s σ H Q I h => ?_⟩
  refine wpAny_Call_Name_kw (ld_glob I hg hm (PySem.W.callWith_K0 I.kIn kp (wpAny_call ?_)) hdb)
  have q := h (s.heap.objs.size + 1) s.heap.objs.size (I.hok.fresh (Nat.le_succ _)) (I.hok.fresh (Nat.le_refl _)) (Nat.ne_of_lt (Nat.lt_succ_self _))
  have IB := Inv.made (C := C) I
  refine make_map0 I.kIn mk hi (fun self => PySem.W.Looks.of_pure (PySem.W.oi_bind self)) ?_
  have Y := PySem.W.makes_of (M := model X.prog X.w) I.kIn mk
  have gt : ((s.heap.push PySem.W.emptyDict).push (PySem.W.instObj C s.heap.objs.size)).get? (s.heap.objs.size + 1) = some (PySem.W.instObj C s.heap.objs.size) := by
    have z := Heap.get?_push_size (s.heap.push PySem.W.emptyDict) (o := PySem.W.instObj C s.heap.objs.size) rfl
    rwa [Heap.size_push] at z
  have tA : PySem.W.Looks (model X.prog X.w) ((s.heap.push PySem.W.emptyDict).push (PySem.W.instObj C s.heap.objs.size)) (typeOf (.ref (s.heap.objs.size + 1))) (.ref C) := (PySem.W.Looks.ld gt).andThen .now
  have tB : PySem.W.Looks (model X.prog X.w) ((s.heap.push PySem.W.emptyDict).push (PySem.W.instObj C s.heap.objs.size)) (isInstance (.ref (s.heap.objs.size + 1)) (.type "object")) true :=
    tA.andThen (Y.top.keeps fun b o e => Heap.get?_push_of_some _ (Heap.get?_push_of_some _ e))
  refine codeAny_call_builtin PySem.W.oi_plain PySem.W.entry_oi (@PySem.W.check_slot (model X.prog X.w) _ _ _ "object.__init__" "object" "__init__" (.ref (s.heap.objs.size + 1)) [] [] _ PySem.W.oi_kind PySem.W.oi_split tB (PySem.W.oi_args (.ref (s.heap.objs.size + 1))) ?_)
  rw [PySem.W.oi_run]
  exact wpAny_pure (And.intro rfl ⟨V.ref (s.heap.objs.size + 1), _, IB, rfl, q⟩)
end
/-! ### methods and inits of the text, as their callers use them -/
def CalM (CX : CXT) (P : Program) (w : World) (K : PySem.W.Frag) (mg : Str → Option Value) (base : Heap) (C : Addr) (m : Str) (ps : List Str) (k : Nat) (sp : Sp) : Prop :=
  ∃ (f : Addr) (fd : FuncData), FnOk P w K mg base CX k f fd ps sp ∧ Meth K C m f ∧ Binds K fd ps []
def CalI (CX : CXT) (P : Program) (w : World) (K : PySem.W.Frag) (mg : Str → Option Value) (base : Heap) (C : Addr) (ps : List Str) (k : Nat) (sp : Sp) : Prop :=
  ∃ (f : Addr) (fd : FuncData), FnOk P w K mg base CX k f fd ps sp ∧ Mk K C f ∧ Binds K fd ps []
section
variable {X : Cx} {C : Addr} {x m : Str} {ps : List Str} {j k : Nat} {sp : Sp} {o e : Expr} {es : List Expr} {ta : TE} {t : TA} {p pos apos : Pos}
theorem pe_methC {pl : Sem Bool} (c : CalM CX0 X.prog X.w X.K X.mg X.base C m ps j sp) (cl : Cls X.K C) (hr : Room k X.A) (he : PE X o ta) (ha : PA X (e :: es) t) (hj : j ≤ k := by decide)
    (hst : starEach (e :: es) X.env = (false, eval e X.env) :: starEach es X.env := by rfl) (hpl : (backTo pos (starEach es X.env)).any (·.1) = false := by rfl)
    (ht : eval (.Call (.Attribute o m apos) (e :: es) [] pos) X.env = (do
      let ov ← eval o X.env
      standAt apos.atName
      let (f, first) ← holding [ov] (getMethod ov m pl)
      callWith pos f first (backTo pos (starEach (e :: es) X.env)) (backToKw pos (keywordEach [] X.env))) := by rfl) :
    PE X (.Call (.Attribute o m apos) (e :: es) [] pos) (tMeth C m sp [] E0 ta t) := by
  obtain ⟨f, fd, F, mf, bf⟩ := c
  exact pe_meth (pl := pl) he cl mf F (hr.mono hj) bf .nil pass0 ha hst hpl ht
theorem pe_makeC (c : CalI CX0 X.prog X.w X.K X.mg X.base C ps j sp) (hr : Room k X.A) (hg : Gl X x) (hm : X.mg x = some (.ref C)) (ha : PA X (e :: es) t) (hj : j + 1 ≤ k := by decide) (hdb : (x == ("__debug__" : Str)) = false := by decide)
    (he : starEach (e :: es) X.env = (false, eval e X.env) :: starEach es X.env := by rfl) (hpl : (backTo pos (starEach es X.env)).any (·.1) = false := by rfl) :
    PE X (.Call (.Name x p) (e :: es) [] pos) (tMake C sp [] E0 t) := by
  obtain ⟨f, fd, F, mf, bf⟩ := c
  exact pe_make mf F (hr.mono hj) hg hm bf .nil pass0 ha hdb he hpl
theorem pe_lenSetK {K : PySem.W.Frag} {a : Expr} {p2 q : Pos} (hK : X.K = K) (hg : Gl X "len") (hm : X.mg "len" = none) (hg2 : Gl X "set") (hm2 : X.mg "set" = none) (ha : PE X a ta) (hc : X.calm = true := by rfl)
    (na : starEach [a] X.env = (false, eval a X.env) :: starEach [] X.env := by rfl) :
    PE X (.Call (.Name "len" p) [.Call (.Name "set" p2) [a] [] q] [] pos) (tLenSetG K ta) := by
  subst hK
  exact pe_lenSetG hg hm hg2 hm2 ha hc na
end
/-- what is known of an answer's class -/
structure ClF (K : PySem.W.Frag) (C : Addr) : Prop where
  cl : Cls K C
  mks : PySem.W.makesIn K C = true
  kp : PySem.W.keepIn K (.ref C) = true
  ha : PySem.W.findIn K (.ref C) "__class__" = some (some (.builtin "object.__class__"))
  hn : PySem.W.specialIn K (.builtin "object.__class__") "__get__" = some (some (.builtin "getset_descriptor.__get__"))
  ht : PySem.W.takesIn K (.builtin "object.__class__") = some true
  hm : PySem.W.mroIn K C (.type "object") = some true
theorem ClF.ty {K : PySem.W.Frag} {H : Hp} {C a dx : Addr} {fs : List (Str × V)} (c : ClF K C) (h : H a = some (.ins C dx fs)) : TyX K H (.ref a) (.ref C) := .base (.ins h c.cl c.ha c.hn c.ht c.hm)
def alF (g : Addr) : List (Str × V) := putF "evenings" (.ref g) []
theorem alF_ev (g : Addr) : (alF g).lookup ("evenings" : Str) = some (.ref g) := by
  unfold alF
  rw [lookup_putF, if_pos rfl]
theorem alF_no (g : Addr) : (alF g).lookup ("shows" : Str) = none := by
  unfold alF
  rw [lookup_putF, if_neg (by decide +kernel)]
  rfl
/-- an Alike with the list at g; a Never -/
def IsAl (C : Addr) (H : Hp) (x g : Addr) : Prop := ∃ dx, H x = some (.ins C dx (alF g))
def IsNv (C : Addr) (H : Hp) (x : Addr) : Prop := ∃ dx, H x = some (.ins C dx [])
section
variable {P : Program} {w : World} {K : PySem.W.Frag} {mg : Str → Option Value} {base : Heap}
def sp_al_init (C : Addr) : Sp := fun vs H Q _ => ∃ (x dx g : Addr) (ws : List V), vs = [.ref x, .ref g] ∧ H x = some (.ins C dx []) ∧ H g = some (.lst ws) ∧
  ∀ H' o, H o = none → H' o = some (.lst ws) → H' x = some (.ins C dx (alF o)) → (∀ b u, H b = some u → b ≠ x → H' b = some u) → Q .non H'
theorem ok_al_init {f C : Addr} {fd : FuncData} (F : Fun K "__init__" "Alike.__init__" s_Alike_init f fd) (B : Blt mg) (c : ClF K C) (nE : NoAttr K C "evenings") : FnOk P w K mg base CX0 1 f fd ["self", "evenings"] (sp_al_init C) := by
  refine F.ok sc_Alike_init (fun vs H Q E h => ?_) (fun cdv A outer s H vs Q E hr h => ?_)
  · obtain ⟨x, dx, g, ws, rfl, _⟩ := h
    rfl
  · obtain ⟨x, dx, g, ws, rfl, hx, hg, q⟩ := h
    refine ⟨_, (pss_one (ps_fld (pv 0) (pe_callTy (r := rListOf K) call_list_of (by rfl) B.list PyProof.Rows.boot_list (pa_cons (pv 1) pa_nil)) rfl)), ?_⟩
    refine ⟨.ref g, rfl, g, ws, rfl, .inl (SqL.of hg), fun o ho => ?_⟩
    have nx : x ≠ o := ne_of_none hx ho
    refine ⟨.ref x, rfl, x, C, dx, [], rfl, (by rw [upd_ne nx]; exact hx), c.cl, nE, (by show 0 < 1000; decide), ?_⟩
    refine q _ o ho (by rw [upd_ne nx.symm, upd_same]) upd_same fun b u e nb => ?_
    rw [upd_ne nb, upd_ne (ne_of_none e ho)]
    exact e
def sp_al_shows (K : PySem.W.Frag) (C : Addr) : Sp := fun vs H Q _ => ∃ (x g a : Addr) (ws : List V) (ps : List Pr) (ns : List Int), vs = [.ref x, .ref a] ∧ IsAl C H x g ∧ H g = some (.lst ws) ∧ Prs H ws ps ∧ SqL K H a (ns.map V.int) ∧ ns.length ≤ 12 ∧
  ∀ H', Same H H' → Q (.bl (alikeB ((rbeh ns ps).getD []))) H'
theorem rbeh_len {ns r : Rw} {ps : List Pr} (h : rbeh ns ps = some r) : r.length = ns.length := (rbeh_rch _ rfl h).len
theorem ok_al_shows {f C : Addr} {fd : FuncData} (F : Fun K "shows" "Alike.shows" s_Alike_shows f fd) (c : ClF K C) (nE : NoAttr K C "evenings") (c_row_behind : Cal CX0 P w K mg base "row_behind" ["row", "some"] 2 (sp_row_behind K))
    (c_are_alike : Cal CX0 P w K mg base "are_alike" ["row"] 1 (sp_are_alike K)) : FnOk P w K mg base CX0 3 f fd ["self", "row"] (sp_al_shows K C) := by
  refine F.ok sc_Alike_shows (fun vs H Q E h => ?_) (fun cdv A outer s H vs Q E hr h => ?_)
  · obtain ⟨x, g, a, ws, ps, ns, rfl, _⟩ := h
    rfl
  · obtain ⟨x, g, a, ws, ps, ns, rfl, ⟨dx, hx⟩, hg, pr, hS, hl, q⟩ := h
    refine ⟨_, (pss_one (ps_ret (pe_cal c_are_alike hr (by rfl) (pa_cons (pe_cal c_row_behind hr (by rfl) (pa_cons (pv 1) (pa_cons (pe_fld (pv 0) rfl) pa_nil))) pa_nil)))), ?_⟩
    refine ⟨.ref a, rfl, .ref x, rfl, x, C, dx, _, _, rfl, hx, c.cl, nE, alF_ev g, a, g, ns, ws, ps, rfl, hS, hl, hg, pr, fun H1 o s1 hO => ?_⟩
    refine ⟨o, _, rfl, hO, ?_, q H1 s1⟩
    cases e : rbeh ns ps with
    | none => exact Nat.zero_le _
    | some r =>
      show r.length ≤ 4000
      rw [rbeh_len e]
      omega
def noAl (ns : Rw) : Prop := ∀ n r, Rch ns n r → alikeB r = false
open Classical in
noncomputable def neverB (ns : Rw) : Bool := decide (noAl ns)
open Classical in
theorem neverB_true {ns : Rw} (h : noAl ns) : neverB ns = true := by unfold neverB; exact decide_eq_true h
open Classical in
theorem neverB_false {ns : Rw} (h : ¬ noAl ns) : neverB ns = false := by unfold neverB; exact decide_eq_false h
def sp_nv_shows (C : Addr) : Sp := fun vs H Q _ => ∃ (x a : Addr) (ns : List Int), vs = [.ref x, .ref a] ∧ IsNv C H x ∧ Lst H a ns ∧ Small ns ∧ ∀ H', Same H H' → Q (.bl (neverB ns)) H'
theorem ok_nv_shows {f C : Addr} {fd : FuncData} (F : Fun K "shows" "Never.shows" s_Never_shows f fd) (c_way_to_alike : Cal CX0 P w K mg base "way_to_alike" ["row"] 2 sp_way) : FnOk P w K mg base CX0 3 f fd ["self", "row"] (sp_nv_shows C) := by
  refine F.ok sc_Never_shows (fun vs H Q E h => ?_) (fun cdv A outer s H vs Q E hr h => ?_)
  · obtain ⟨x, a, ns, rfl, _⟩ := h
    rfl
  · obtain ⟨x, a, ns, rfl, hx, hL, ok, q⟩ := h
    refine ⟨_, (pss_one (ps_ret (pe_cmpR op_isN (pe_cal c_way_to_alike hr (by rfl) (pa_cons (pv 1) pa_nil)) pe_non (nomark _)))), ?_⟩
    refine ⟨.ref a, rfl, a, ns, rfl, hL, ok, fun H1 s1 hn => ⟨rfl, ?_⟩, fun H1 g ps path r s1 hg pr hrb hal hmin => ⟨rfl, ?_⟩⟩
    · have e : neverB ns = true := neverB_true hn
      have z := q H1 s1
      rw [e] at z
      exact z
    · have e : neverB ns = false := by
        refine neverB_false fun hn => ?_
        have := hn _ r (rbeh_rch _ rfl hrb)
        rw [hal] at this
        cases this
      have z := q H1 s1
      rw [e] at z
      exact z
end
end EG

/-! Objects made. -/
namespace EG
open PySem L2
theorem made_at {H : Hp} {x dx C b : Addr} {o : HO} (h : H b = some o) (nx : H x = none) (nd : H dx = none) : (upd (upd H dx (.own x)) x (.ins C dx [])) b = some o := by
  rw [upd_ne (ne_of_none h nx), upd_ne (ne_of_none h nd)]
  exact h
theorem RowOk.small {ns : Rw} {m g : Int} (h : RowOk ns m g) (hm : m ≤ 5) (hg : g ≤ 20) : Small ns := ⟨h.1, by have := h.2.1; omega, fun x hx => ⟨(h.2.2 x hx).1, by have := (h.2.2 x hx).2; omega⟩⟩
end EG

/-! alike; an answer, whichever. -/
namespace EG
open PySem PySem.Spec PyProof.Rows L2
/-- none: Never; some: Alike with these evenings -/
def IsAns (CA CN : Addr) (H : Hp) (x : Addr) : Option (List Pr) → Prop
  | none => IsNv CN H x
  | some ps => ∃ g ws, IsAl CA H x g ∧ H g = some (.lst ws) ∧ Prs H ws ps
theorem IsAns.mono {CA CN : Addr} {H H' : Hp} (s : Same H H') {x : Addr} : ∀ {A : Option (List Pr)}, IsAns CA CN H x A → IsAns CA CN H' x A
  | none, ⟨dx, h⟩ => ⟨dx, s _ _ h⟩
  | some _, ⟨g, ws, ⟨dx, h1⟩, h2, h3⟩ => ⟨g, ws, ⟨dx, s _ _ h1⟩, s _ _ h2, h3.mono (Same.tups s)⟩
noncomputable def showV : Option (List Pr) → Rw → Bool
  | none, ns => neverB ns
  | some ps, ns => alikeB ((rbeh ns ps).getD [])
/-- as told: the right answer for a row -/
def AnsFor (ns : Rw) : Option (List Pr) → Prop
  | none => noAl ns
  | some ps => ∃ r, rbeh ns ps = some r ∧ alikeB r = true ∧ ∀ n r', n < ps.length → Rch ns n r' → alikeB r' = false
theorem AnsFor.show {ns : Rw} : ∀ {A : Option (List Pr)}, AnsFor ns A → showV A ns = true
  | none, h => neverB_true h
  | some ps, ⟨r, h1, h2, _⟩ => by
    show alikeB ((rbeh ns ps).getD []) = true
    rw [h1]
    exact h2
/-- o.shows(row) of an answer, whichever -/
def tShows (K : PySem.W.Frag) (CA CN : Addr) (ta : TE) (t : TA) : TE := fun σ H Q => ta σ H fun x H1 => ∃ xo A, x = .ref xo ∧ IsAns CA CN H1 xo A ∧ t σ H1 fun vs H2 =>
  ∃ (a : Addr) (ns : Rw), vs = [.ref a] ∧ IsAns CA CN H2 xo A ∧ Lst H2 a ns ∧ Small ns ∧ ∀ H', Same H2 H' → Q (.bl (showV A ns)) H'
section
variable {X : Cx} {CA CN : Addr} {k : Nat} {o e : Expr} {es : List Expr} {ta : TE} {t : TA} {pos apos : Pos}
theorem pe_shows {pl : Sem Bool} {K : PySem.W.Frag} (hK : X.K = K) (ca : CalM CX0 X.prog X.w X.K X.mg X.base CA "shows" ["self", "row"] 3 (sp_al_shows X.K CA)) (cn : CalM CX0 X.prog X.w X.K X.mg X.base CN "shows" ["self", "row"] 3 (sp_nv_shows CN))
    (clA : Cls X.K CA) (clN : Cls X.K CN) (hr : Room k X.A) (he : PE X o ta) (ha : PA X (e :: es) t) (hj : 3 ≤ k := by decide)
    (hst : starEach (e :: es) X.env = (false, eval e X.env) :: starEach es X.env := by rfl) (hpl : (backTo pos (starEach es X.env)).any (·.1) = false := by rfl)
    (ht : eval (.Call (.Attribute o "shows" apos) (e :: es) [] pos) X.env = (do
      let ov ← eval o X.env
      standAt apos.atName
      let (f, first) ← holding [ov] (getMethod ov "shows" pl)
      callWith pos f first (backTo pos (starEach (e :: es) X.env)) (backToKw pos (keywordEach [] X.env))) := by rfl) :
    PE X (.Call (.Attribute o "shows" apos) (e :: es) [] pos) (tShows K CA CN ta t) := by
  subst hK
  obtain ⟨fa, fda, FA, ma, ba⟩ := ca
  obtain ⟨fn, fdn, FN, mn, bn⟩ := cn
  refine ⟨fun pins s σ H Q I h => ?_⟩
  refine PySem.W.methodCall_KW (pl := pl) (thn (he.run pins s σ H _ I h) fun u sA ⟨x, HA, IA, rx, qA⟩ => ?_) ht
  obtain ⟨xo, A, ex, an, qA⟩ := qA
  subst ex
  obtain rfl : u = Value.ref xo := rx
  cases A with
  | none =>
    obtain ⟨dx, hx⟩ := an
    refine getmeth_ok IA hx clN mn rfl ?_
    refine PySem.W.callWith_K (first := [.ref xo]) (h₀ := X.base) IA.ok.mod.kin mn.kp (thn (ha.run pos pins sA σ HA _ IA qA) fun us sB ⟨vs, HB, IB, r, qB⟩ => ⟨IB.kIn, ?_⟩) hst hpl
    obtain ⟨a, ns, ev, an2, hL, ok, qB⟩ := qB
    subst ev
    exact run_fn (us := .ref xo :: us) (vs := .ref xo :: [.ref a]) FN (hr.mono hj) bn .nil pass0 IB (.cons rfl r) ⟨xo, a, ns, rfl, an2, hL, ok, qB⟩
  | some ps =>
    obtain ⟨g, ws, ⟨dx, hx⟩, _, _⟩ := an
    refine getmeth_ok IA hx clA ma (alF_no g) ?_
    refine PySem.W.callWith_K (first := [.ref xo]) (h₀ := X.base) IA.ok.mod.kin ma.kp (thn (ha.run pos pins sA σ HA _ IA qA) fun us sB ⟨vs, HB, IB, r, qB⟩ => ⟨IB.kIn, ?_⟩) hst hpl
    obtain ⟨a, ns, ev, ⟨g2, ws2, al2, hg2, pr2⟩, hL, ok, qB⟩ := qB
    subst ev
    exact run_fn (us := .ref xo :: us) (vs := .ref xo :: [.ref a]) FA (hr.mono hj) ba .nil pass0 IB (.cons rfl r) ⟨xo, g2, a, ws2, ps, ns, rfl, al2, hg2, pr2, hL.sq, ok.row12, qB⟩
end
section
variable {P : Program} {w : World} {K : PySem.W.Frag} {mg : Str → Option Value} {base : Heap}
def sp_alike (CA CN : Addr) : Sp := fun vs H Q _ => ∃ (a : Addr) (ns : Rw), vs = [.ref a] ∧ Lst H a ns ∧ Small ns ∧
  ∀ H' x A, Same H H' → H x = none → IsAns CA CN H' x A → (∀ g, IsAl CA H' x g → H g = none) → AnsFor ns A → Q (.ref x) H'
abbrev N_alike : List Str := ["row", "found"]
theorem ok_alike {f C_Alike C_Never : Addr} {fd : FuncData} {t1 t2 : Tok} (F : Fun K "alike" "alike" s_alike f fd) (g_FEW : mg "FEW" = some (.int 5 t1)) (g_SMALL : mg "SMALL" = some (.int 20 t2))
    (g_Alike : mg "Alike" = some (.ref C_Alike)) (g_Never : mg "Never" = some (.ref C_Never)) (cl_Never : ClF K C_Never) (i_Never : PySem.W.findIn K (.ref C_Never) "__init__" = some (some (.builtin "object.__init__")))
    (c_Alike_init : CalI CX0 P w K mg base C_Alike ["self", "evenings"] 1 (sp_al_init C_Alike)) (c_check_row : Cal CX0 P w K mg base "check_row" ["row", "most", "greatest"] 2 sp_check_row)
    (c_way_to_alike : Cal CX0 P w K mg base "way_to_alike" ["row"] 2 sp_way) : FnOk P w K mg base CX0 3 f fd ["row"] (sp_alike C_Alike C_Never) := by
  refine F.ok sc_alike (fun vs H Q E h => ?_) (fun cdv A outer s H vs Q E hr h => ?_)
  · obtain ⟨a, ns, rfl, _⟩ := h
    rfl
  · obtain ⟨a, ns, rfl, hL, ok, q⟩ := h
    refine ⟨_, (pss_cons (ps_expr (pe_cal c_check_row hr (by rfl) (pa_cons (pv 0) (pa_cons (pe_glob (v := .int 5) (by rfl) g_FEW ⟨_, rfl⟩) (pa_cons (pe_glob (v := .int 20) (by rfl) g_SMALL ⟨_, rfl⟩) pa_nil)))))
    (pss_cons (ps_set (i := 1) sc_alike.nd rfl (.inl rfl) (pe_cal c_way_to_alike hr (by rfl) (pa_cons (pv 0) pa_nil)))
    (pss_one (ps_ret (pe_ifExp (pt_cmpR op_isN (pv 1) pe_non (nomark _)) (pe_makeN cl_Never.mks i_Never cl_Never.kp (by rfl) g_Never) (pe_makeC c_Alike_init hr (by rfl) g_Alike (pa_cons (pv 1) pa_nil))))))), ?_⟩
    refine ⟨.ref a, rfl, a, ns, 5, 20, rfl, hL, by have := ok.len5; omega, ok, fun H1 s1 => ?_⟩
    refine ⟨.ref a, rfl, a, ns, rfl, hL.mono s1, ok, fun H2 s2 hn => ?_, fun H2 g ps path r s2 hg pr hrb hal hmin => ?_⟩
    · refine ⟨.non, rfl, rfl, _, rfl, itP (by decide) ?_⟩
      intro x dx nx nd _
      have s12 := s1.trans s2
      refine q _ x none (s12.trans fun b u z => made_at z nx nd) (s12.free nx) ⟨dx, upd_same⟩ (fun g hg => ?_) hn
      obtain ⟨dx2, h2⟩ := hg
      rw [upd_same] at h2
      cases h2
    · refine ⟨.ref g, rfl, rfl, _, rfl, itN (by rw [decide_eq_false (by intro z; cases z)]; decide) ?_⟩
      have s12 := s1.trans s2
      refine ⟨.ref g, rfl, fun x dx nx nd _ => ⟨x, dx, g, ps, rfl, upd_same, made_at hg nx nd, fun H3 o no ho hx hk => ⟨rfl, ?_⟩⟩⟩
      have s3 : Same H2 H3 := Same.made nx nd hk
      refine q H3 x (some path) (s12.trans s3) (s12.free nx) ⟨o, ps, ⟨dx, hx⟩, ho, pr.mono (Same.tups s3)⟩ (fun g2 hg2 => ?_) ⟨r, hrb, hal, hmin⟩
      obtain ⟨dx2, h2⟩ := hg2
      rw [hx] at h2
      have e1 : alF o = alF g2 := (HO.ins.inj (Option.some.inj h2)).2.2
      have e2 := alF_ev o
      rw [e1, alF_ev g2] at e2
      have e3 : g2 = o := V.ref.inj (Option.some.inj e2)
      rw [e3]
      have sm : Same H2 (upd (upd H2 dx (.own x)) x (.ins C_Alike dx [])) := fun b u z => made_at z nx nd
      exact (s12.trans sm).free no
end
end EG

/-! isinstance of an own class, from what the top has written. -/
namespace EG
open PySem L2
theorem kit_mk {K : PySem.W.Frag} {C D : Addr} {b : Bool} (hc : PySem.W.isClsIn K D = true) (ht : PySem.W.typeIn K (.ref D) = some (.type "type")) (hs : PySem.W.subIn K (.ref C) (.ref D) = some b) (hd : PySem.W.subIn K (.ref D) (.ref D) = some true) :
    PySem.W.kitOne K (.ref C) (.ref D) = some b := by
  unfold PySem.W.kitOne
  by_cases e : C = D
  · subst e
    rw [hs] at hd
    rw [if_pos (beq_self_eq_true _)]
    exact hd.symm
  · have ne : ¬ ((Value.ref C == Value.ref D) = true) := fun z => e (Value.ref.inj (eq_of_beq z))
    rw [if_neg ne]
    show (if ((PySem.W.clsIn K D).isSome && PySem.W.typeIn K (.ref D) == some (.type "type")) = true then PySem.W.subIn K (.ref C) (.ref D) else none) = some b
    have hc2 : (PySem.W.clsIn K D).isSome = true := hc
    rw [ht, hc2, if_pos (by decide)]
    exact hs
end EG

/-! isinstance of a built-in class, from what the top has written. -/
namespace EG
open PySem L2
theorem kit_bi {K : PySem.W.Frag} {C : Addr} {T : String} {b : Bool} (m : PySem.W.kitMeta T = true) (h : PySem.W.subIn K (.ref C) (.type T) = some b) : PySem.W.kitOne K (.ref C) (.type T) = some b := by
  unfold PySem.W.kitOne
  have ne : ¬ ((Value.ref C == Value.type T) = true) := fun z => nomatch (eq_of_beq z)
  rw [if_neg ne]
  show (if PySem.W.kitMeta T = true then PySem.W.subIn K (.ref C) (.type T) else none) = some b
  rw [if_pos m]
  exact h
end EG

/-! sorted of a list of rows of whole numbers. -/
namespace EG
open PySem PySem.Spec PyProof.Rows L2
def srt (L : List Rw) : List Rw := L.mergeSort fun p q => decide (p ≤ q)
theorem perm_of_mem : ∀ {L M : List Rw}, L.Nodup → M.Nodup → (∀ x, x ∈ L ↔ x ∈ M) → L.Perm M
  | [], M, _, _, h => by
    have e : M = [] := List.eq_nil_iff_forall_not_mem.mpr fun x hx => nomatch (h x).mpr hx
    rw [e]
  | x :: L, M, n1, n2, h => by
    have hx : x ∈ M := (h x).mp List.mem_cons_self
    obtain ⟨hxL, ndL⟩ := List.nodup_cons.mp n1
    refine ((perm_of_mem ndL (n2.erase x) fun y => ?_).cons x).trans (List.perm_cons_erase hx).symm
    rw [n2.mem_erase_iff]
    constructor
    · intro hy
      exact ⟨fun e => hxL (by rw [← e]; exact hy), (h y).mp (List.mem_cons_of_mem _ hy)⟩
    · rintro ⟨ne, hy⟩
      rcases List.mem_cons.mp ((h y).mpr hy) with e | hy
      · exact absurd e ne
      · exact hy
theorem srt_le_total (a b : Rw) : (decide (a ≤ b) || decide (b ≤ a)) = true := by
  rcases List.le_total a b with h | h <;> simp [h]
theorem srt_le_trans (a b c : Rw) (h1 : decide (a ≤ b) = true) (h2 : decide (b ≤ c) = true) : decide (a ≤ c) = true := decide_eq_true (List.le_trans (of_decide_eq_true h1) (of_decide_eq_true h2))
theorem srt_perm (L : List Rw) : (srt L).Perm L := List.mergeSort_perm L _
theorem srt_nodup {L : List Rw} (h : L.Nodup) : (srt L).Nodup := (srt_perm L).nodup_iff.mpr h
theorem mem_srt {L : List Rw} {x : Rw} : x ∈ srt L ↔ x ∈ L := (srt_perm L).mem_iff
theorem srt_eq {L M : List Rw} (h : L.Perm M) : srt L = srt M :=
  ((srt_perm L).trans (h.trans (srt_perm M).symm)).eq_of_pairwise (fun a b _ _ h1 h2 => List.le_antisymm (of_decide_eq_true h1) (of_decide_eq_true h2)) (List.pairwise_mergeSort srt_le_trans srt_le_total L) (List.pairwise_mergeSort srt_le_trans srt_le_total M)
theorem srt_same {L M : List Rw} (n1 : L.Nodup) (n2 : M.Nodup) (h : ∀ x, x ∈ L ↔ x ∈ M) : srt L = srt M := srt_eq (perm_of_mem n1 n2 h)
/-- sorted(xs), xs a list of rows; R is whatever the items are known to be -/
def rSortRows (K : PySem.W.Frag) : List V → Hp → VK → Prop := fun vs H Q => ∃ (a : Addr) (ws : List V) (L : List Rw) (R : V → Rw → Prop), vs = [V.ref a] ∧ SqL K H a ws ∧ Paired R ws L ∧ (∀ v r, R v r → IsRow H v r) ∧
  ∀ ys p, H p = none → Paired R ys (srt L) → Q (.ref p) (upd H p (.lst ys))
theorem each_rows {H : Hp} {R : V → Rw → Prop} (hR : ∀ v r, R v r → IsRow H v r) : ∀ {ws : List V} {us : List Value} {L : List Rw}, Vals ws us → Paired R ws L → PySem.W.EachIs (fun u r => R (backV u) r ∧ ∃ a, u = Value.ref a) us L
  | _, _, _, .nil, .nil => .nil
  | _, _, _, .cons r t, .cons q z => by
    obtain ⟨b, rfl, _⟩ := hR _ _ q
    cases r
    exact .cons ⟨q, b, rfl⟩ (each_rows hR t z)
theorem back_rows {R : V → Rw → Prop} : ∀ {us : List Value} {L : List Rw}, PySem.W.EachIs (fun u r => R (backV u) r ∧ ∃ a, u = Value.ref a) us L → Paired R (us.map backV) L ∧ ∀ u ∈ us, ∃ a, u = Value.ref a
  | _, _, .nil => ⟨.nil, fun u hu => nomatch hu⟩
  | _, _, .cons q z => by
    obtain ⟨h1, h2⟩ := back_rows z
    refine ⟨.cons q.1 h1, fun u hu => ?_⟩
    rcases List.mem_cons.mp hu with e | hu
    · rw [e]; exact q.2
    · exact h2 u hu
theorem rows_reads {X : Cx} {pins : List (Addr × Obj)} {σ : L2.St} {H : Hp} {s : Shared} (I : L2.Inv X pins σ H s) {R : V → Rw → Prop} (hR : ∀ v r, R v r → IsRow H v r) : ∀ {us : List Value} {L : List Rw}, PySem.W.EachIs (fun u r => R (backV u) r ∧ ∃ a, u = Value.ref a) us L →
    PySem.W.EachIs (fun v b => ∃ as, Reads s.heap v (rowD b) as) us L
  | _, _, .nil => .nil
  | _, _, .cons q z => by
    refine .cons ?_ (rows_reads I hR z)
    obtain ⟨q1, a, rfl⟩ := q
    obtain ⟨b, e, hb⟩ := hR _ _ q1
    cases e
    exact Dp.reads I (rowD _) (.ref a) (.ref a) (dp_row (SqL.of hb)) rfl
section
variable {X : Cx}
theorem cr_sortRows (hu : X.A.units + 65 < cLine) : CallR X (.builtin "sorted") (rSortRows X.K) := by
  intro pins s σ H vs us Q I r h
  obtain ⟨a, ws, L, R, rfl, hs, hp, hR, q⟩ := h
  obtain ⟨its, rv, hl, hz⟩ := I.list hs
  rw [Vals.ref1 r]
  have e := each_rows hR rv hp
  refine PySem.W.sorted_data (enc := rowD) (R := fun u r => R (backV u) r ∧ ∃ a, u = Value.ref a) hl.isList e (rows_reads I hR e) (PySem.W.AllAlike.of fun b b' => by unfold rowD; simp only [PySem.W.alike]; exact PySem.W.alike_ints b b')
    (PySem.W.Sortable.others fun b => ⟨nofun, nofun⟩) (by rw [← e.length, ← rv.length]; exact hz) (fun b _ => ?_) fun out ho eo => ?_
  · have h1 : (rowD b).depth = 1 := by
      unfold rowD
      rw [PyData.depth, PySem.W.depth_ints]
    omega
  · have ed : PySem.W.dataLe false rowD = fun p q => decide (p ≤ q) := PySem.W.dataLe_rows (fun b : List Int => b)
    rw [ed] at eo
    obtain ⟨h1, h2⟩ := back_rows eo
    obtain ⟨ep, he'⟩ := PyProof.Rows.sortedAll_at s.heap its out.toArray
    refine ⟨.ref _, upd H (s.heap.objs.size + 1) (.lst (out.map backV)), I.laid (t' := s.toks) (fun _ _ => PyProof.Rows.sortedAll_old) (Nat.le_succ _) ⟨?_, out, ep, vals_back h2, he'⟩, rfl, q _ _ (I.hok.fresh (Nat.le_succ _)) h1⟩
    rw [List.length_map, ho, ← e.length, ← rv.length]
    exact hz
end
end EG

/-! The fewest and the most evenings till a row is settled: the law of it. -/
namespace EG
open PySem L2
theorem Rch.front {r x : Rw} {n : Nat} {p : Pr} (hp : p ∈ evs r) (h : Rch (behP r p) n x) : Rch r (n + 1) x := by
  induction h with
  | zero => exact .step (.zero r) hp
  | step h hp2 ih => exact .step ih hp2
theorem Rch.split {r x : Rw} : ∀ {n : Nat}, Rch r (n + 1) x → ∃ p, p ∈ evs r ∧ Rch (behP r p) n x
  | 0, h => by
    cases h with
    | @step q _ p h hp =>
      cases h
      exact ⟨p, hp, .zero _⟩
  | n + 1, h => by
    cases h with
    | @step q _ p h hp =>
      obtain ⟨p0, h0, h1⟩ := Rch.split h
      exact ⟨p0, h0, .step h1 hp⟩
def Bd (r : Rw) (lo hi : Nat) : Prop := (∃ x, Rch r lo x ∧ evs x = []) ∧ (∃ x, Rch r hi x ∧ evs x = []) ∧ ∀ k x, Rch r k x → evs x = [] → lo ≤ k ∧ k ≤ hi
theorem Bd.nil {r : Rw} (h : evs r = []) : Bd r 0 0 := by
  refine ⟨⟨r, .zero _, h⟩, ⟨r, .zero _, h⟩, fun k x hk _ => ?_⟩
  cases k with
  | zero => exact ⟨Nat.le_refl _, Nat.le_refl _⟩
  | succ n =>
    obtain ⟨p, hp, _⟩ := Rch.split hk
    rw [h] at hp
    cases hp
abbrev BdP (r : Rw) (b p : Pr) : Prop := ∃ lo hi : Nat, b = ((lo : Int), (hi : Int)) ∧ Bd (behP r p) lo hi
theorem pd_back {α β : Type} {F : α → β → Prop} : ∀ {vs : List α} {ps : List β}, Paired F vs ps → ∀ p ∈ ps, ∃ v ∈ vs, F v p
  | _, _, .nil, p, h => nomatch h
  | _, _, .cons r t, p, h => by
    rcases List.mem_cons.mp h with rfl | h
    · exact ⟨_, List.mem_cons_self, r⟩
    · obtain ⟨v, h1, h2⟩ := pd_back t p h
      exact ⟨v, List.mem_cons_of_mem _ h1, h2⟩
theorem pd_forth {α β : Type} {F : α → β → Prop} {vs : List α} {ps : List β} (h : Paired F vs ps) {v : α} (hv : v ∈ vs) : ∃ p ∈ ps, F v p := by
  obtain ⟨i, hi⟩ := List.mem_iff_getElem?.mp hv
  obtain ⟨p, h1, h2⟩ := pd_at h hi
  exact ⟨p, List.mem_of_getElem? h1, h2⟩
theorem Bd.step {r : Rw} {bs : List Pr} (h : Paired (BdP r) bs (evs r)) {m M : Int} (m1 : m ∈ bs.map (·.1)) (m2 : ∀ y ∈ bs.map (·.1), m ≤ y) (M1 : M ∈ bs.map (·.2)) (M2 : ∀ y ∈ bs.map (·.2), y ≤ M) :
    ∃ lo hi : Nat, 1 + m = (lo : Int) ∧ 1 + M = (hi : Int) ∧ Bd r lo hi := by
  obtain ⟨b, hb, rfl⟩ := List.mem_map.mp m1
  obtain ⟨c, hc, rfl⟩ := List.mem_map.mp M1
  obtain ⟨p, hp, lo, _, rfl, ⟨x, hx, ex⟩, _⟩ := pd_forth h hb
  obtain ⟨q, hq, _, hi, rfl, _, ⟨y, hy, ey⟩, _⟩ := pd_forth h hc
  refine ⟨lo + 1, hi + 1, by show 1 + (lo : Int) = _; omega, by show 1 + (hi : Int) = _; omega, ⟨x, hx.front hp, ex⟩, ⟨y, hy.front hq, ey⟩, fun k z hk ez => ?_⟩
  cases k with
  | zero =>
    cases hk
    rw [ez] at hp
    cases hp
  | succ n =>
    obtain ⟨p2, hp2, hn⟩ := Rch.split hk
    obtain ⟨b2, hb2, l2, h2, rfl, _, _, hb3⟩ := pd_back h p2 hp2
    have := hb3 n z hn ez
    have h5 : (lo : Int) ≤ (l2 : Int) := m2 _ (List.mem_map.mpr ⟨_, hb2, rfl⟩)
    have h6 : (h2 : Int) ≤ (hi : Int) := M2 _ (List.mem_map.mpr ⟨_, hb2, rfl⟩)
    omega
/-! ### how far it goes down -/
def mz (r : Rw) : Int := sq r - 12 * r.sum + 36 * r.length
theorem mz_cons (x : Int) (r : Rw) : mz (x :: r) = (x - 6) * (x - 6) + mz r := by
  unfold mz sq
  rw [List.map_cons, List.sum_cons, List.sum_cons, List.length_cons, show (x - 6) * (x - 6) = x * x - 12 * x + 36 by rw [Int.sub_mul, Int.mul_sub]; omega]
  push_cast
  omega
theorem mz_nonneg : ∀ r : Rw, 0 ≤ mz r
  | [] => by decide
  | x :: r => by
    have ih := mz_nonneg r
    have h : 0 ≤ (x - 6) * (x - 6) := by
      rcases Int.le_total 0 (x - 6) with h | h
      · exact Int.mul_nonneg h h
      · exact Int.mul_nonneg_of_nonpos_of_nonpos h h
    rw [mz_cons]
    omega
theorem mz_le : ∀ {r : Rw}, (∀ x ∈ r, 0 ≤ x ∧ x ≤ 12) → mz r ≤ 36 * r.length
  | [], _ => by decide
  | x :: r, h => by
    have ih := mz_le (r := r) fun y hy => h y (List.mem_cons_of_mem _ hy)
    obtain ⟨h1, h2⟩ := h x List.mem_cons_self
    have h3 : (x - 6) * (x - 6) ≤ 36 := by
      rcases Int.le_total 0 (x - 6) with h | h
      · exact Int.mul_le_mul (c := 6) (d := 6) (a := x - 6) (b := x - 6) (by omega) (by omega) h (by decide)
      · have e : (x - 6) * (x - 6) = (6 - x) * (6 - x) := by
          rw [show x - 6 = -(6 - x) by omega, Int.neg_mul_neg]
        rw [e]
        exact Int.mul_le_mul (c := 6) (d := 6) (a := 6 - x) (b := 6 - x) (by omega) (by omega) (by omega) (by decide)
    rw [mz_cons, List.length_cons]
    push_cast
    omega
theorem fall2 {ns : Rw} {p : Pr} (hp : p ∈ evs ns) : 2 ≤ fallP ns p := by
  have h0 := (sq_fall hp).2
  obtain ⟨i, j, rfl, hij, hj, hg⟩ := mem_evs.mp hp
  obtain ⟨h1, h2⟩ := goodP_iff.mp hg
  have e : fallP ns ((i : Int), (j : Int)) = (ns.getD i 0 - ns.getD j 0) * (ns.getD i 0 - ns.getD j 0) / 2 := rfl
  rw [e] at h0 ⊢
  obtain ⟨d, ed⟩ : ∃ d, ns.getD i 0 - ns.getD j 0 = 2 * d := ⟨(ns.getD i 0 - ns.getD j 0) / 2, by omega⟩
  rw [ed, show 2 * d * (2 * d) = 2 * (2 * (d * d)) by rw [Int.mul_assoc, Int.mul_left_comm d 2 d]] at h0 ⊢
  omega
theorem mz_fall {ns : Rw} {p : Pr} (hp : p ∈ evs ns) : mz (behP ns p) + 2 ≤ mz ns := by
  have h1 := sq_fall hp
  have h2 := fall2 hp
  unfold mz
  rw [behP_sum hp, behP_length]
  omega
theorem mz12 {ns : Rw} (h : RowOk ns 5 12) : mz ns < 2 * 91 := by
  have h1 := mz_le h.2.2
  have h2 := h.2.1
  omega
/-! ### turned about -/
theorem rev_step {r : Rw} {p : Pr} (hp : p ∈ evs r) : ∃ q, q ∈ evs r.reverse ∧ behP r.reverse q = (behP r p).reverse := by
  obtain ⟨i, j, rfl, hij, hj, hg⟩ := mem_evs.mp hp
  obtain ⟨h1, h2⟩ := goodP_iff.mp hg
  have e1 : r.reverse.getD (r.length - 1 - j) 0 = r.getD j 0 := by rw [rev_get (by omega)]; congr 1; omega
  have e2 : r.reverse.getD (r.length - 1 - i) 0 = r.getD i 0 := by rw [rev_get (by omega)]; congr 1; omega
  refine ⟨(((r.length - 1 - j : Nat) : Int), ((r.length - 1 - i : Nat) : Int)), mem_evs.mpr ⟨_, _, rfl, by omega, by rw [List.length_reverse]; omega, goodP_iff.mpr ⟨by rw [e1, e2]; exact fun z => h1 z.symm, by rw [e1, e2]; omega⟩⟩, ?_⟩
  have hh : half r.reverse (r.length - 1 - j) (r.length - 1 - i) = half r i j := by
    unfold half
    rw [e1, e2, Int.add_comm]
  show beh r.reverse (r.length - 1 - j) (r.length - 1 - i) = (beh r i j).reverse
  apply List.ext_getElem?
  intro k
  by_cases hk : k < r.length
  · rw [List.getElem?_reverse (by rw [beh_length]; exact hk), beh_length, beh_get _ _ _ _ (by rw [List.length_reverse]; exact hk), beh_get _ _ _ _ (by omega), hh, rev_get hk]
    congr 1
    by_cases c : k = r.length - 1 - j ∨ k = r.length - 1 - i
    · rw [if_pos c, if_pos (by omega)]
    · rw [if_neg c, if_neg (by omega)]
  · rw [List.getElem?_eq_none (by rw [beh_length, List.length_reverse]; omega), List.getElem?_eq_none (by rw [List.length_reverse, beh_length]; omega)]
theorem Rch.rev {r x : Rw} {n : Nat} (h : Rch r n x) : Rch r.reverse n x.reverse := by
  induction h with
  | zero => exact .zero _
  | step h hp ih =>
    obtain ⟨q, hq, e⟩ := rev_step hp
    rw [← e]
    exact .step ih hq
theorem Rch.rev_iff {r x : Rw} {n : Nat} : Rch r.reverse n x ↔ Rch r n x.reverse :=
  ⟨fun h => by have := h.rev; rwa [List.reverse_reverse] at this, fun h => by have := h.rev; rwa [List.reverse_reverse] at this⟩
end EG

/-! ends: all settled rows that a row comes to. -/
namespace EG
open PySem L2
/-! ### lists of rows as data -/
def rowsD (L : List Rw) : PyData := .list (L.map rowD)
theorem eqv_rows : ∀ L M : List Rw, PyData.eqv (rowsD L) (rowsD M) = decide (L = M)
  | [], [] => by simp [rowsD, PyData.eqv, PyData.eqvAll]
  | [], _ :: _ => by simp [rowsD, PyData.eqv, PyData.eqvAll]
  | _ :: _, [] => by simp [rowsD, PyData.eqv, PyData.eqvAll]
  | p :: ps, q :: qs => by
    have ih := eqv_rows ps qs
    simp only [rowsD, PyData.eqv] at ih
    simp only [rowsD, PyData.eqv, PyData.eqvAll, List.map_cons, eqv_row, ih, List.cons.injEq]
    rw [Bool.decide_and]
theorem lay_rows : ∀ L : List Rw, PyData.canLayAll0 (L.map rowD) = true ∧ PyData.depthAll (L.map rowD) ≤ 1
  | [] => by simp [PyData.canLayAll0, PyData.depthAll]
  | p :: ps => by
    have ih := lay_rows ps
    have h1 : (rowD p).canLay0 = true := by simp only [rowD, PyData.canLay0]; exact (lay_ints p).1
    have h2 : (rowD p).depth ≤ 1 := by
      simp only [rowD, PyData.depth]
      have := (lay_ints p).2
      omega
    refine ⟨by simp [PyData.canLayAll0, ih.1, h1], ?_⟩
    simp only [List.map_cons, PyData.depthAll]
    omega
theorem shaped_rows (L : List Rw) : SeqAt.shaped (rowsD L) = true := by
  have h := lay_rows L
  unfold SeqAt.shaped
  rw [Bool.and_eq_true]
  refine ⟨by simp only [rowsD, PyData.canLay0]; exact h.1, decide_eq_true ?_⟩
  simp only [rowsD, PyData.depth]
  omega
theorem dpa_rows {K : PySem.W.Frag} {H : Hp} : ∀ {vs : List V} {L : List Rw}, Rows H vs L → DpAll K H vs (L.map rowD)
  | _, _, .nil => .nil
  | _, _, .cons ⟨_, e, h⟩ t => .cons (by rw [e]; exact dp_row (SqL.of h)) (dpa_rows t)
theorem dp_rows {K : PySem.W.Frag} {H : Hp} {a : Addr} {vs : List V} {L : List Rw} (h : SqL K H a vs) (r : Rows H vs L) : Dp K H (.ref a) (rowsD L) := .lst h (dpa_rows r)
/-- rows made since -/
def IsNw (H0 H : Hp) (v : V) (r : Rw) : Prop := ∃ b, v = .ref b ∧ Lst H b r ∧ H0 b = none
abbrev Nws (H0 H : Hp) : List V → List Rw → Prop := Paired (IsNw H0 H)
theorem IsNw.row {H0 H : Hp} {v : V} {r : Rw} (h : IsNw H0 H v r) : IsRow H v r := by
  obtain ⟨b, e, h, _⟩ := h
  exact ⟨b, e, h⟩
theorem IsNw.mono {H0 H H' : Hp} (s : Lsts H H') {v : V} {r : Rw} (h : IsNw H0 H v r) : IsNw H0 H' v r := by
  obtain ⟨b, e, h, n⟩ := h
  exact ⟨b, e, s _ _ h, n⟩
theorem Nws.mono {H0 H H' : Hp} (s : Lsts H H') {vs : List V} {L : List Rw} (h : Nws H0 H vs L) : Nws H0 H' vs L := Paired.mapP h fun _ _ q => q.mono s
theorem Nws.rows {H0 H : Hp} {vs : List V} {L : List Rw} (h : Nws H0 H vs L) : Rows H vs L := Paired.mapP h fun _ _ q => q.row
theorem pd_snoc {α β : Type} {F : α → β → Prop} : ∀ {ps : List β} {vs : List α} {p : β}, Paired F vs (ps ++ [p]) → ∃ ws v, vs = ws ++ [v] ∧ Paired F ws ps ∧ F v p
  | [], _, _, .cons h .nil => ⟨[], _, rfl, .nil, h⟩
  | _ :: ps, _, _, .cons h t => by
    obtain ⟨ws, v, e, h1, h2⟩ := pd_snoc (ps := ps) t
    exact ⟨_ :: ws, v, by rw [e]; rfl, .cons h h1, h2⟩
/-! ### the walk through all that come -/
structure EndI (ns : Rw) (M L Fd : List Rw) : Prop where
  nm : M.Nodup
  rm : ∀ x ∈ M, ∃ k, Rch ns k x
  st : ns ∈ M
  dn : ∀ r ∈ M, r ∈ L ∨ ((evs r = [] → r ∈ Fd) ∧ ∀ p ∈ evs r, behP r p ∈ M)
  nf : Fd.Nodup
  nl : L.Nodup
  lm : ∀ r ∈ L, r ∈ M ∧ r ∉ Fd
  fm : ∀ r ∈ Fd, r ∈ M ∧ evs r = []
structure EndJ (ns r : Rw) (j : Nat) (M L Fd : List Rw) : Prop where
  nm : M.Nodup
  rm : ∀ x ∈ M, ∃ k, Rch ns k x
  st : ns ∈ M
  dn : ∀ q ∈ M, q ∈ L ∨ q = r ∨ ((evs q = [] → q ∈ Fd) ∧ ∀ p ∈ evs q, behP q p ∈ M)
  nf : Fd.Nodup
  nl : L.Nodup
  lm : ∀ q ∈ L, q ∈ M ∧ q ∉ Fd
  fm : ∀ q ∈ Fd, q ∈ M ∧ evs q = []
  cm : r ∈ M
  cf : evs r = [] → r ∈ Fd
  kd : ∀ k p, k < j → (evs r)[k]? = some p → behP r p ∈ M
theorem nd_snoc {L : List Rw} {r : Rw} (h : L.Nodup) (n : r ∉ L) : (L ++ [r]).Nodup :=
  List.nodup_append.mpr ⟨h, List.nodup_cons.mpr ⟨List.not_mem_nil, List.nodup_nil⟩, fun x hx y hy e => n (by rw [List.mem_singleton] at hy; rw [← hy, ← e]; exact hx)⟩
theorem EndI.pop {ns r : Rw} {M L Fd : List Rw} (h : EndI ns M (L ++ [r]) Fd) : EndJ ns r 0 M L (if evs r = [] then Fd ++ [r] else Fd) := by
  obtain ⟨hr, hf⟩ := h.lm r (List.mem_append_right _ (List.mem_singleton.mpr rfl))
  obtain ⟨nL, _, dj⟩ := List.nodup_append.mp h.nl
  have nr : r ∉ L := fun z => dj r z r (List.mem_singleton.mpr rfl) rfl
  have sub : ∀ x ∈ Fd, x ∈ (if evs r = [] then Fd ++ [r] else Fd) := fun x hx => by
    split
    · exact List.mem_append_left _ hx
    · exact hx
  refine ⟨h.nm, h.rm, h.st, fun q hq => ?_, ?_, nL, fun q hq => ?_, fun q hq => ?_, hr, fun e => ?_, fun k p hk _ => absurd hk (by omega)⟩
  · rcases h.dn q hq with z | ⟨z1, z2⟩
    · rcases List.mem_append.mp z with z | z
      · exact .inl z
      · exact .inr (.inl (List.mem_singleton.mp z))
    · exact .inr (.inr ⟨fun e => sub q (z1 e), z2⟩)
  · split
    · exact nd_snoc h.nf hf
    · exact h.nf
  · obtain ⟨z1, z2⟩ := h.lm q (List.mem_append_left _ hq)
    refine ⟨z1, ?_⟩
    split
    · intro z
      rcases List.mem_append.mp z with z | z
      · exact z2 z
      · exact nr (by rw [← List.mem_singleton.mp z]; exact hq)
    · exact z2
  · split at hq
    · rename_i e
      rcases List.mem_append.mp hq with z | z
      · exact h.fm q z
      · rw [List.mem_singleton.mp z]
        exact ⟨hr, e⟩
    · exact h.fm q hq
  · rw [if_pos e]
    exact List.mem_append_right _ (List.mem_singleton.mpr rfl)
theorem EndJ.old {ns r : Rw} {j : Nat} {M L Fd : List Rw} {p : Pr} (h : EndJ ns r j M L Fd) (hp : (evs r)[j]? = some p) (c : behP r p ∈ M) : EndJ ns r (j + 1) M L Fd :=
  ⟨h.nm, h.rm, h.st, h.dn, h.nf, h.nl, h.lm, h.fm, h.cm, h.cf, fun k q hk hq => by
    by_cases e : k = j
    · subst e
      rw [hp] at hq
      cases hq
      exact c
    · exact h.kd k q (by omega) hq⟩
theorem EndJ.new {ns r : Rw} {j : Nat} {M L Fd : List Rw} {p : Pr} (h : EndJ ns r j M L Fd) (hp : (evs r)[j]? = some p) (c : behP r p ∉ M) : EndJ ns r (j + 1) (M ++ [behP r p]) (L ++ [behP r p]) Fd := by
  have up : ∀ x ∈ M, x ∈ M ++ [behP r p] := fun x hx => List.mem_append_left _ hx
  refine ⟨nd_snoc h.nm c, fun x hx => ?_, up _ h.st, fun q hq => ?_, h.nf, nd_snoc h.nl fun z => c (h.lm _ z).1, fun q hq => ?_, fun q hq => ⟨up _ (h.fm q hq).1, (h.fm q hq).2⟩, up _ h.cm, h.cf, fun k q hk hq => ?_⟩
  · rcases List.mem_append.mp hx with z | z
    · exact h.rm x z
    · obtain ⟨k, hk⟩ := h.rm r h.cm
      rw [List.mem_singleton.mp z]
      exact ⟨k + 1, .step hk (List.mem_of_getElem? hp)⟩
  · rcases List.mem_append.mp hq with z | z
    · rcases h.dn q z with z | z | ⟨z1, z2⟩
      · exact .inl (List.mem_append_left _ z)
      · exact .inr (.inl z)
      · exact .inr (.inr ⟨z1, fun p hp => up _ (z2 p hp)⟩)
    · exact .inl (List.mem_append_right _ z)
  · rcases List.mem_append.mp hq with z | z
    · exact ⟨up _ (h.lm q z).1, (h.lm q z).2⟩
    · refine ⟨List.mem_append_right _ z, fun z2 => ?_⟩
      rw [List.mem_singleton.mp z] at z2
      exact c (h.fm _ z2).1
  · by_cases e : k = j
    · subst e
      rw [hp] at hq
      cases hq
      exact List.mem_append_right _ (List.mem_singleton.mpr rfl)
    · exact up _ (h.kd k q (by omega) hq)
theorem EndJ.fin {ns r : Rw} {M L Fd : List Rw} (h : EndJ ns r (evs r).length M L Fd) : EndI ns M L Fd :=
  ⟨h.nm, h.rm, h.st, fun q hq => by
    rcases h.dn q hq with z | z | z
    · exact .inl z
    · refine .inr ⟨fun e => by rw [z]; exact h.cf (by rw [← z]; exact e), fun p hp => ?_⟩
      rw [z] at hp ⊢
      obtain ⟨k, hk⟩ := List.mem_iff_getElem?.mp hp
      exact h.kd k p (List.getElem?_eq_some_iff.mp hk).1 hk
    · exact .inr z, h.nf, h.nl, h.lm, h.fm⟩
def Stl (ns : Rw) (Fd : List Rw) : Prop := Fd.Nodup ∧ ∀ x, x ∈ Fd ↔ ∃ k, Rch ns k x ∧ evs x = []
theorem EndI.all {ns : Rw} {M Fd : List Rw} (h : EndI ns M [] Fd) : Stl ns Fd := by
  have dn : ∀ r ∈ M, (evs r = [] → r ∈ Fd) ∧ ∀ p ∈ evs r, behP r p ∈ M := fun r hr => by
    rcases h.dn r hr with z | z
    · cases z
    · exact z
  have all : ∀ k x, Rch ns k x → x ∈ M := fun k x hk => by
    induction hk with
    | zero => exact h.st
    | step hq hp ih => exact (dn _ ih).2 _ hp
  refine ⟨h.nf, fun x => ⟨fun hx => ?_, fun ⟨k, hk, e⟩ => (dn x (all k x hk)).1 e⟩⟩
  obtain ⟨hM, e⟩ := h.fm x hx
  obtain ⟨k, hk⟩ := h.rm x hM
  exact ⟨k, hk, e⟩
section
variable {P : Program} {w : World} {K : PySem.W.Frag} {mg : Str → Option Value} {base : Heap}
def sp_ends : Sp := fun vs H Q _ => ∃ (a : Addr) (ns : Rw), vs = [.ref a] ∧ Lst H a ns ∧ Small ns ∧
  ∀ H' p ys Fd, Same H H' → H p = none → H' p = some (.lst ys) → Nws H (hid H' [p]) ys (srt Fd) → Stl ns Fd → Q (.ref p) H'
abbrev N_ends : List Str := ["row", "found", "waiting", "met", "here", "some", "evening", "there"]
theorem ok_ends {f : Addr} {fd : FuncData} {t1 t2 : Tok} (F : Fun K "ends" "ends" s_ends f fd) (B : Blt mg) (g_FEW : mg "FEW" = some (.int 5 t1)) (g_SMALL : mg "SMALL" = some (.int 20 t2))
    (c_check_row : Cal CX0 P w K mg base "check_row" ["row", "most", "greatest"] 2 sp_check_row) (c_evenings_of : Cal CX0 P w K mg base "evenings_of" ["row"] 1 (sp_evenings_of K))
    (c_behind : Cal CX0 P w K mg base "behind" ["row", "evening"] 1 (sp_behind K)) : FnOk P w K mg base CX0 3 f fd ["row"] sp_ends := by
  refine F.ok sc_ends (fun vs H Q E h => ?_) (fun cdv A outer s H vs Q E hr h => ?_)
  · obtain ⟨a, ns, rfl, _⟩ := h
    rfl
  · obtain ⟨a, ns, rfl, hL, ok, q⟩ := h
    refine ⟨_, (pss_cons (ps_expr (pe_cal c_check_row hr (by rfl) (pa_cons (pv 0) (pa_cons (pe_glob (v := .int 5) (by rfl) g_FEW ⟨_, rfl⟩) (pa_cons (pe_glob (v := .int 20) (by rfl) g_SMALL ⟨_, rfl⟩) pa_nil)))))
    (pss_cons (ps_par3 (i := 1) (j := 2) (l := 3) rfl sc_ends.nd rfl rfl rfl (by decide) (by decide) (by decide) rfl rfl rfl (pa_cons (pe_lst pa_nil) (pa_cons (pe_lst (pa_cons (pe_callTy (r := rListOf K) call_list_of (by rfl) B.list PyProof.Rows.boot_list (pa_cons (pv 0) pa_nil)) pa_nil)) (pa_cons (pe_dispT (hu_of hr) (pe_callTy (r := rTupOf K) call_tuple_of (by rfl) B.tuple PyProof.Rows.boot_tuple (pa_cons (pv 0) pa_nil)) pe_bl) pa_nil))) (by rfl))
    (pss_cons (ps_while PassesOwn.never (pt_cmpR (r := rNeD K) (op_neD hr.units) (pv 2) (pe_lst pa_nil) (nomark _))
    (pss_cons (ps_set (i := 4) sc_ends.nd rfl (.inl rfl) (pe_bm0 PySem.F.plainAttrs_list PySem.F.slot_list_pop PySem.F.type_list_pop mt_pop (pv 2)))
      (pss_cons (ps_set (i := 5) sc_ends.nd rfl (.inl rfl) (pe_cal c_evenings_of hr (by rfl) (pa_cons (pv 4) pa_nil)))
      (pss_cons (ps_if (pt_cmpR (r := rEqD K) (op_eqD hr.units) (pv 5) (pe_lst pa_nil) (nomark _))
      (pss_one (ps_expr (pe_bm PySem.F.plainAttrs_list PySem.F.slot_list_append PySem.F.type_list_append mt_append (pv 1) (pa_cons (pv 4) pa_nil))))
      pss_nil)
      (pss_one (ps_for PassesOwn.never rfl (pi_list (pv 5)) (pg_name (i := 6) sc_ends.nd rfl (.inl rfl))
      (pss_cons (ps_set (i := 7) sc_ends.nd rfl (.inl rfl) (pe_cal c_behind hr (by rfl) (pa_cons (pv 4) (pa_cons (pv 6) pa_nil))))
        (pss_one (ps_if (pt_cmp (pc_dnotin (hu_of hr) (pe_callTy (r := rTupOf K) call_tuple_of (by rfl) B.tuple PyProof.Rows.boot_tuple (pa_cons (pv 7) pa_nil)) (pv 3)))
        (pss_cons (ps_dput (hu_of hr) (pv 3) (pe_callTy (r := rTupOf K) call_tuple_of (by rfl) B.tuple PyProof.Rows.boot_tuple (pa_cons (pv 7) pa_nil)) pe_bl rfl)
          (pss_one (ps_expr (pe_bm PySem.F.plainAttrs_list PySem.F.slot_list_append PySem.F.type_list_append mt_append (pv 2) (pa_cons (pv 7) pa_nil)))))
        pss_nil)))))))))
    (pss_one (ps_ret (pe_callB (cr_sortRows (room65 hr)) (by rfl) B.sorted PyProof.Rows.boot_sorted (pa_cons (pv 1) pa_nil))))))), ?_⟩
    refine ⟨.ref a, rfl, a, ns, 5, 20, rfl, hL, by have := ok.len5; omega, ok, fun H1 s1 => ?_⟩
    have hL1 := hL.mono s1
    refine ⟨Nat.zero_le _, fun fo hfo => ?_⟩
    have a1 : Same H1 (upd H1 fo (.lst [])) := same_new hfo
    have hfo2 : (upd H1 fo (.lst [])) fo = some (.lst []) := upd_same
    have hfoH : H fo = none := s1.free hfo
    generalize upd H1 fo (.lst []) = H2 at a1 hfo2
    refine ⟨.ref a, rfl, a, _, rfl, .inl (hL1.mono a1).sq, fun b0 hb0 => ?_⟩
    have a2 : Same H2 (upd H2 b0 (.lst (ns.map V.int))) := same_new hb0
    have hb02 : Lst (upd H2 b0 (.lst (ns.map V.int))) b0 ns := upd_same
    have hb0H : H b0 = none := (s1.trans a1).free hb0
    have nb0 : b0 ≠ fo := (ne_of_none hfo2 hb0).symm
    generalize upd H2 b0 (.lst (ns.map V.int)) = H3 at a2 hb02
    refine ⟨(by show 1 ≤ sizeLine; decide), fun wa hwa => ?_⟩
    have a3 : Same H3 (upd H3 wa (.lst [.ref b0])) := same_new hwa
    have hwa4 : (upd H3 wa (.lst [.ref b0])) wa = some (.lst [.ref b0]) := upd_same
    have hwaH : H wa = none := ((s1.trans a1).trans a2).free hwa
    have nbw : b0 ≠ wa := ne_of_none hb02 hwa
    have nfw : fo ≠ wa := ne_of_none (a2 _ _ hfo2) hwa
    have hfo4 := a3 _ _ (a2 _ _ hfo2)
    have hb04 := hb02.mono a3
    have s4 : Same H (upd H3 wa (.lst [.ref b0])) := ((s1.trans a1).trans a2).trans a3
    generalize upd H3 wa (.lst [.ref b0]) = H4 at a3 hwa4 hfo4 hb04 s4
    refine fun me hme => ?_
    have hmeH : H me = none := s4.free hme
    have a4 : Same H4 (upd H4 me (.dT [])) := same_new hme
    refine ⟨.ref a, rfl, a, _, rfl, .inl ⟨((hL.mono s4).mono a4).sq, fun t ht => ?_⟩⟩
    have a5 : Same (upd H4 me (.dT [])) (upd (upd H4 me (.dT [])) t (.tup (ns.map V.int))) := same_new ht
    have hme5 := a5 _ _ (show (upd H4 me (.dT [])) me = some (.dT []) from upd_same)
    refine ⟨t, rowKey ns, rfl, hme5, by rw [rowKey_V]; exact upd_same, _, _, _, rfl, ?_⟩
    have l6 : Lsts H4 (upd (upd (upd H4 me (.dT [])) t (.tup (ns.map V.int))) me (.dT [(rowKey ns, .bl true)])) := (Same.lsts (a4.trans a5)).trans (lsts_dT hme5)
    have s6 : Same H (upd (upd (upd H4 me (.dT [])) t (.tup (ns.map V.int))) me (.dT [(rowKey ns, .bl true)])) := same_upd2 ((s4.trans a4).trans a5) hmeH
    have hme6 : (upd (upd (upd H4 me (.dT [])) t (.tup (ns.map V.int))) me (.dT [(rowKey ns, .bl true)])) me = some (.dT (dRows [ns])) := upd_same
    generalize upd (upd (upd H4 me (.dT [])) t (.tup (ns.map V.int))) me (.dT [(rowKey ns, .bl true)]) = H6 at l6 s6 hme6
    refine ⟨fun m σ H' => ∃ fv wv Fd L M y4 y5 y6 y7, m + M.length = 4084102 + L.length ∧ σ = [some (.ref a), some (.ref fo), some (.ref wa), some (.ref me), y4, y5, y6, y7] ∧ Same H H' ∧ H' fo = some (.lst fv) ∧ H' wa = some (.lst wv) ∧
        H' me = some (.dT (dRows M)) ∧ Nws H (hid H' [fo, wa]) fv Fd ∧ Nws H (hid H' [fo, wa]) wv L ∧ EndI ns M L Fd,
      ⟨4084102, [], [.ref b0], [], [ns], [ns], none, none, none, none, rfl, rfl, s6, l6 _ _ hfo4, l6 _ _ hwa4, hme6, .nil, .cons ⟨b0, rfl, ?_, hb0H⟩ .nil, ?_⟩, fun m σ H7 h => ?_⟩
    · unfold Lst
      rw [hid_out (by simp [nb0, nbw])]
      exact l6 _ _ hb04
    · refine ⟨List.nodup_cons.mpr ⟨List.not_mem_nil, List.nodup_nil⟩, fun x hx => ?_, List.mem_singleton.mpr rfl, fun r hr => .inl hr, List.nodup_nil, List.nodup_cons.mpr ⟨List.not_mem_nil, List.nodup_nil⟩, fun r hr => ⟨hr, List.not_mem_nil⟩, fun r hr => nomatch hr⟩
      rw [List.mem_singleton.mp hx]
      exact ⟨0, .zero _⟩
    · obtain ⟨fv, wv, Fd, L, M, y4, y5, y6, y7, em, rfl, s7, hfo7, hwa7, hme7, nf7, nw7, ei⟩ := h
      refine ⟨.ref wa, rfl, Nat.zero_le _, fun z hz => ?_⟩
      have b1 : Same H7 (upd H7 z (.lst [])) := same_new hz
      have hs := Same.lsts (hid_same H7 [fo, wa])
      refine ⟨rowsD L, rowsD [], dp_rows (SqL.of (b1 _ _ hwa7)) ((nw7.mono hs).mono (Same.lsts b1)).rows, .lst (SqL.of upd_same) .nil, shaped_rows _, shaped_rows _, _, rfl, ?_⟩
      rw [eqv_rows]
      have s8 : Same H (upd H7 z (.lst [])) := s7.trans b1
      have hfo8 := b1 _ _ hfo7
      have hwa8 := b1 _ _ hwa7
      have hme8 := b1 _ _ hme7
      have nf8 := nf7.mono (Same.lsts (hid_mono (xs := [fo, wa]) b1))
      have nw8 := nw7.mono (Same.lsts (hid_mono (xs := [fo, wa]) b1))
      generalize upd H7 z (.lst []) = H8 at s8 hfo8 hwa8 hme8 nf8 nw8
      by_cases ce : L = []
      · subst ce
        refine itN (by simp) ?_
        refine ⟨.ref fo, rfl, fo, fv, Fd, _, rfl, SqL.of hfo8, nf8.mono (Same.lsts (hid_same _ _)), fun v r h => h.row, fun ys p hp pr => ?_⟩
        refine q _ p ys Fd (s8.trans (same_new hp)) (s8.free hp) upd_same (Paired.mapP pr fun v r h => ?_) ei.all
        obtain ⟨b, e, hb, nb⟩ := h
        refine ⟨b, e, ?_, nb⟩
        have nbp : b ≠ p := ne_of_none hb hp
        unfold Lst
        rw [hid_out (by simp [nbp]), upd_ne nbp]
        exact hb
      · refine itP (by rw [decide_eq_false ce]; rfl) ?_
        refine ⟨fun σ' H' => ∃ m', m' < m ∧ ∃ fv wv Fd L M y4 y5 y6 y7, m' + M.length = 4084102 + L.length ∧ σ' = [some (.ref a), some (.ref fo), some (.ref wa), some (.ref me), y4, y5, y6, y7] ∧ Same H H' ∧ H' fo = some (.lst fv) ∧ H' wa = some (.lst wv) ∧
          H' me = some (.dT (dRows M)) ∧ Nws H (hid H' [fo, wa]) fv Fd ∧ Nws H (hid H' [fo, wa]) wv L ∧ EndI ns M L Fd, fun σ' H' h => h, ?_⟩
        obtain ⟨L0, r, rfl⟩ : ∃ L0 r, L = L0 ++ [r] := ⟨L.dropLast, L.getLast ce, (List.dropLast_concat_getLast ce).symm⟩
        obtain ⟨w0, v, rfl, nw0, b, rfl, hb, hbH⟩ := pd_snoc nw8
        have cM := count_le ok ei.nm ei.rm
        -- pop
        refine ⟨.ref wa, rfl, .inl ⟨rfl, _, SqL.of hwa8⟩, wa, _, .ref b, rfl, rfl, hwa8, by simp, ?_⟩
        rw [List.dropLast_concat]
        have ls9 : Same (hid H8 [fo, wa]) (hid (upd H8 wa (.lst w0)) [fo, wa]) := by rw [hid_upd (by simp)]; exact Same.refl _
        have s9 : Same H (upd H8 wa (.lst w0)) := same_upd2 s8 hwaH
        have hwa9 : (upd H8 wa (.lst w0)) wa = some (.lst w0) := upd_same
        have hfo9 : (upd H8 wa (.lst w0)) fo = some (.lst fv) := by rw [upd_ne nfw]; exact hfo8
        have hme9 : (upd H8 wa (.lst w0)) me = some (.dT (dRows M)) := by rw [upd_ne (ne_of hme8 hwa8 (by intro z; cases z))]; exact hme8
        have nf9 := nf8.mono (Same.lsts ls9)
        have nw9 := Nws.mono (Same.lsts ls9) nw0
        have hb9 : Lst (hid (upd H8 wa (.lst w0)) [fo, wa]) b r := ls9 _ _ hb
        generalize upd H8 wa (.lst w0) = H9 at s9 hwa9 hfo9 hme9 nf9 nw9 hb9
        have hb9' : Lst H9 b r := hid_same _ _ _ _ hb9
        obtain ⟨k0, rch⟩ := ei.rm r (ei.lm r (List.mem_append_right _ (List.mem_singleton.mpr rfl))).1
        have okr : Small r := rch.ok ok
        have ej := ei.pop
        -- evenings
        refine ⟨.ref b, rfl, b, r, rfl, hb9'.sq, okr.row12, fun HA p we sA hp hwe pe => ?_⟩
        have lsA := Same.lsts (hid_mono (xs := [fo, wa]) sA)
        have sHA := s9.trans sA
        have hfoA := sA _ _ hfo9
        have hwaA := sA _ _ hwa9
        have hmeA := sA _ _ hme9
        have nfA := nf9.mono lsA
        have nwA := nw9.mono lsA
        have hbA : Lst (hid HA [fo, wa]) b r := lsA _ _ hb9
        have npf : p ≠ fo := (ne_of_none hfo9 hp).symm
        have npw : p ≠ wa := (ne_of_none hwa9 hp).symm
        refine ⟨.ref p, rfl, Nat.zero_le _, fun z2 hz2 => ?_⟩
        have sB : Same HA (upd HA z2 (.lst [])) := same_new hz2
        refine ⟨prsD (evs r), prsD [], dp_prs (SqL.of (sB _ _ hwe)) (pe.mono (Same.tups sB)), dp_prs (SqL.of upd_same) .nil, shaped_prs _, shaped_prs _, _, rfl, ?_⟩
        rw [eqv_prs]
        have lsB := Same.lsts (hid_mono (xs := [fo, wa]) sB)
        have sHB := sHA.trans sB
        have hfoB := sB _ _ hfoA
        have hwaB := sB _ _ hwaA
        have hmeB := sB _ _ hmeA
        have nfB := nfA.mono lsB
        have nwB := nwA.mono lsB
        have hbB : Lst (hid (upd HA z2 (.lst [])) [fo, wa]) b r := lsB _ _ hbA
        have hweB := sB _ _ hwe
        have peB := pe.mono (Same.tups sB)
        generalize upd HA z2 (.lst []) = HB at sHB hfoB hwaB hmeB nfB nwB hbB hweB peB
        have lF : fv.length = Fd.length := pd_len nfB
        have cF : Fd.length ≤ 4084101 := count_le ok ei.nf fun x hx => ei.rm x (ei.fm x hx).1
        obtain ⟨FdC, eFd⟩ : ∃ z, z = (if evs r = [] then Fd ++ [r] else Fd) := ⟨_, rfl⟩
        rw [← eFd] at ej
        rw [List.length_append] at em
        have em2 : m + M.length = 4084103 + L0.length := by
          have e1 : [r].length = 1 := rfl
          omega
        by_cases cv : evs r = []
        case' pos =>
          refine itP (decide_eq_true cv) ?_
          refine ⟨.ref fo, rfl, .inl ⟨rfl, _, SqL.of hfoB⟩, .ref b, rfl, fo, fv, _, rfl, rfl, hfoB, lineB (by omega), ?_⟩
          have eF2 : FdC = Fd ++ [r] := by rw [eFd, if_pos cv]
          have hh : hid (upd HB fo (.lst (fv ++ [.ref b]))) [fo, wa] = hid HB [fo, wa] := hid_upd (by simp)
          have sC : Same H (upd HB fo (.lst (fv ++ [.ref b]))) := same_upd2 sHB hfoH
          have hfoC : (upd HB fo (.lst (fv ++ [.ref b]))) fo = some (.lst (fv ++ [.ref b])) := upd_same
          have hwaC : (upd HB fo (.lst (fv ++ [.ref b]))) wa = some (.lst w0) := by rw [upd_ne nfw.symm]; exact hwaB
          have hmeC : (upd HB fo (.lst (fv ++ [.ref b]))) me = some (.dT (dRows M)) := by rw [upd_ne (ne_of hmeB hfoB (by intro z; cases z))]; exact hmeB
          have nfC : Nws H (hid (upd HB fo (.lst (fv ++ [.ref b]))) [fo, wa]) (fv ++ [.ref b]) FdC := by
            rw [hh, eF2]
            exact pd_app nfB (.cons ⟨b, rfl, hbB, hbH⟩ .nil)
          have nwC : Nws H (hid (upd HB fo (.lst (fv ++ [.ref b]))) [fo, wa]) w0 L0 := by
            rw [hh]
            exact nwB
          have hbC : Lst (hid (upd HB fo (.lst (fv ++ [.ref b]))) [fo, wa]) b r := by
            rw [hh]
            exact hbB
          have hweC : (upd HB fo (.lst (fv ++ [.ref b]))) p = some (.lst we) := by rw [upd_ne npf]; exact hweB
          have peC := peB.mono (tups_lst (o := .lst (fv ++ [.ref b])) hfoB)
          generalize fv ++ [.ref b] = fvC at *
          generalize upd HB fo (.lst fvC) = HC at *
        case' neg =>
          refine itN (by rw [decide_eq_false cv]; decide) ?_
          have eF2 : FdC = Fd := by rw [eFd, if_neg cv]
          have sC := sHB
          have hfoC := hfoB
          have hwaC := hwaB
          have hmeC := hmeB
          have nfC : Nws H (hid HB [fo, wa]) fv FdC := by rw [eF2]; exact nfB
          have nwC := nwB
          have hbC := hbB
          have hweC := hweB
          have peC := peB
          generalize fv = fvC at *
          generalize HB = HC at *
        all_goals
          refine ⟨.ref p, rfl, p, rfl, ⟨_, SqL.of hweC⟩, for_list (K := K) (a := p) (xs := we)
            (fun j σ H' => ∃ wv L M y6 y7, σ = [some (.ref a), some (.ref fo), some (.ref wa), some (.ref me), some (.ref b), some (.ref p), y6, y7] ∧ Same H H' ∧ H' fo = some (.lst fvC) ∧ H' wa = some (.lst wv) ∧ H' me = some (.dT (dRows M)) ∧
              Nws H (hid H' [fo, wa]) fvC FdC ∧ Nws H (hid H' [fo, wa]) wv L ∧ Lst (hid H' [fo, wa]) b r ∧ H' p = some (.lst we) ∧ Prs H' we (evs r) ∧ EndJ ns r j M L FdC ∧ m + M.length = 4084103 + L.length)
            ⟨w0, L0, M, _, _, rfl, sC, hfoC, hwaC, hmeC, nfC, nwC, hbC, hweC, peC, ej, em2⟩ (fun j σ H' _ h => ?_) (fun j x σ HD hx h => ?_) (fun σ HD h => ?_)⟩
          · obtain ⟨_, _, _, _, _, _, _, _, _, _, _, _, _, hpp, _⟩ := h
            exact SqL.of hpp
          · obtain ⟨wv, L, M, y6, y7, rfl, sD, hfoD, hwaD, hmeD, nfD, nwD, hbD, hpD, peD, ejD, emD⟩ := h
            obtain ⟨pp, hpp, tt, rfl, htt⟩ := prs_at peD hx
            have hpe := List.mem_of_getElem? hpp
            obtain ⟨i1, j1, epp, hij, hj1, hgd⟩ := mem_evs.mp hpe
            have hbD' : Lst HD b r := hid_same _ _ _ _ hbD
            refine ⟨.ref b, rfl, .ref tt, rfl, b, tt, r, i1, j1, rfl, hbD'.sq, ?_, by omega, hj1, okr.row12, fun HE th sE hth hTh => ?_⟩
            · rw [epp] at htt
              exact SqT.of htt
            have eb : beh r i1 j1 = behP r pp := by rw [epp]; rfl
            rw [eb] at hTh
            have cM2 : M.length ≤ 4084101 := count_le ok ejD.nm ejD.rm
            have nthf : th ≠ fo := (ne_of_none hfoD hth).symm
            have nthw : th ≠ wa := (ne_of_none hwaD hth).symm
            have hthH : H th = none := sD.free hth
            refine ⟨.ref th, rfl, th, _, rfl, .inl ⟨hTh.sq, fun t3 ht3 => ?_⟩⟩
            have sF : Same HE (upd HE t3 (.tup ((behP r pp).map V.int))) := same_new ht3
            have ht3F : (upd HE t3 (.tup ((behP r pp).map V.int))) t3 = some (.tup ((rowKey (behP r pp)).map kV)) := by rw [rowKey_V]; exact upd_same
            have sDF : Same HD (upd HE t3 (.tup ((behP r pp).map V.int))) := sE.trans sF
            have hThF := hTh.mono sF
            generalize upd HE t3 (.tup ((behP r pp).map V.int)) = HF at sF ht3F sDF hThF
            have hmeF := sDF _ _ hmeD
            have lsF := Same.lsts (hid_mono (xs := [fo, wa]) sDF)
            refine ⟨.ref me, rfl, me, _, rfl, DGet.t (k := rowKey (behP r pp)) hmeF ht3F, _, rfl, ?_⟩
            rw [val_dRows]
            by_cases cN : behP r pp ∈ M
            · refine itN (by rw [decide_eq_true cN]; decide) ?_
              exact ⟨wv, L, M, _, _, rfl, sD.trans sDF, sDF _ _ hfoD, sDF _ _ hwaD, hmeF, nfD.mono lsF, nwD.mono lsF, lsF _ _ hbD, sDF _ _ hpD, peD.mono (Same.tups sDF), ejD.old hpp cN, emD⟩
            · refine itP (by rw [decide_eq_false cN]; rfl) ?_
              refine ⟨.ref me, rfl, .ref th, rfl, th, _, rfl, .inl ⟨hThF.sq, fun t4 ht4 => ?_⟩⟩
              have sG : Same HF (upd HF t4 (.tup ((behP r pp).map V.int))) := same_new ht4
              refine ⟨me, _, rfl, DPut.t (k := rowKey (behP r pp)) (sG _ _ hmeF) (by rw [rowKey_V]; exact upd_same) (lineB (by rw [dRows_length]; omega)), ?_⟩
              rw [put_dRows]
              have hmeG := sG _ _ hmeF
              have sHG := (sD.trans sDF).trans sG
              have sDG := sDF.trans sG
              have hThG := hThF.mono sG
              generalize upd HF t4 (.tup ((behP r pp).map V.int)) = HG at hmeG sHG sDG hThG
              have lI : Lsts HG (upd HG me (.dT (dRows (ins M (behP r pp))))) := lsts_dT hmeG
              have tI : TupS HG (upd HG me (.dT (dRows (ins M (behP r pp))))) := tups_dT hmeG
              have sI : Same H (upd HG me (.dT (dRows (ins M (behP r pp))))) := same_upd2 sHG hmeH
              have hmeI : (upd HG me (.dT (dRows (ins M (behP r pp))))) me = some (.dT (dRows (ins M (behP r pp)))) := upd_same
              have eM : ins M (behP r pp) = M ++ [behP r pp] := if_neg cN
              rw [eM] at hmeI lI tI sI ⊢
              generalize upd HG me (.dT (dRows (M ++ [behP r pp]))) = HI at lI tI sI hmeI
              have lDI : Lsts HD HI := (Same.lsts sDG).trans lI
              have hwaI := lDI _ _ hwaD
              have hfoI := lDI _ _ hfoD
              have hThI : Lst HI th (behP r pp) := lI _ _ hThG
              have lwv : wv.length = L.length := pd_len nwD
              have cL : L.length ≤ 4084101 := count_le ok ejD.nl fun x hx => ejD.rm x (ejD.lm x hx).1
              refine ⟨.ref wa, rfl, .inl ⟨rfl, _, SqL.of hwaI⟩, .ref th, rfl, wa, wv, _, rfl, rfl, hwaI, lineB (by omega), ?_⟩
              have hh2 : hid (upd HI wa (.lst (wv ++ [.ref th]))) [fo, wa] = hid HI [fo, wa] := hid_upd (by simp)
              have lsI := hid_lsts (xs := [fo, wa]) lDI
              refine ⟨wv ++ [.ref th], L ++ [behP r pp], M ++ [behP r pp], _, _, rfl, same_upd2 sI hwaH, by rw [upd_ne nfw]; exact hfoI, upd_same, by rw [upd_ne (ne_of hmeI hwaI (by intro z; cases z))]; exact hmeI, ?_, ?_, ?_, by rw [upd_ne npw]; exact lDI _ _ hpD, (peD.mono ((Same.tups sDG).trans tI)).mono (tups_lst hwaI), ejD.new hpp cN, ?_⟩
              · rw [hh2]
                exact nfD.mono lsI
              · rw [hh2]
                refine pd_app (nwD.mono lsI) (.cons ⟨th, rfl, ?_, hthH⟩ .nil)
                unfold Lst
                rw [hid_out (by simp [nthf, nthw])]
                exact hThI
              · rw [hh2]
                exact lsI _ _ hbD
              · rw [List.length_append, List.length_append]
                show m + (M.length + 1) = 4084103 + (L.length + 1)
                omega
          · obtain ⟨wv, L, M, y6, y7, rfl, sD, hfoD, hwaD, hmeD, nfD, nwD, hbD, hpD, peD, ejD, emD⟩ := h
            rw [pd_len peD] at ejD
            exact ⟨m - 1, by omega, fvC, wv, FdC, L, M, _, _, _, _, by omega, rfl, sD, hfoD, hwaD, hmeD, nfD, nwD, ejD.fin⟩
end
end EG

/-! check_row, of a row or of none: what is refused. -/
namespace EG
open PySem L2
/-- a class of the program's own refusals -/
structure XcF (K : PySem.W.Frag) (C : Addr) : Prop where
  x : PySem.W.excIn K C [.type "ValueError", .type "Exception", .type "BaseException", .type "object"] "ValueError.__new__" = true
  k : PySem.W.keepIn K (.ref C) = true
  b : PySem.W.subIn K (.ref C) (.type "BaseException") = some true
  t : PySem.W.typeIn K (.ref C) = some (.type "type")
/-- a value that is of no such built-in class, whatever comes -/
def NotTy (K : PySem.W.Frag) (H : Hp) (v : V) (T : String) : Prop := ∃ t, (∀ H', LamX.ExtN H H' → TyX K H' v t) ∧ PySem.W.kitOne K t (.type T) = some false
/-- an item: does it count as a number from 0 to g -/
def ItemOk (K : PySem.W.Frag) (H : Hp) (g : Int) (x : V) (b : Bool) : Prop := (b = false ∧ ∀ H', LamX.ExtN H H' → Whole K H' x false) ∨ ∃ n : Int, x = .int n ∧ b = decide (0 ≤ n ∧ n ≤ g)
theorem ItemOk.ext {K : PySem.W.Frag} {H H1 : Hp} {g : Int} {x : V} {b : Bool} (s : LamX.ExtN H H1) (h : ItemOk K H g x b) : ItemOk K H1 g x b := by
  rcases h with ⟨e, h⟩ | h
  · exact .inl ⟨e, fun H' s' => h H' (s.trans s')⟩
  · exact .inr h
theorem ItemOk.mono {K : PySem.W.Frag} {H H1 : Hp} {g : Int} {x : V} {b : Bool} (s : Same H H1) (h : ItemOk K H g x b) : ItemOk K H1 g x b := h.ext (.of s)
def RowBad (K : PySem.W.Frag) (H : Hp) (m g : Int) (v : V) : Prop := NotTy K H v "list" ∨ ∃ (a : Addr) (xs : List V), v = .ref a ∧ H a = some (.lst xs) ∧ xs.length ≤ 900 ∧
  (¬ (1 ≤ (xs.length : Int) ∧ (xs.length : Int) ≤ m) ∨ (1 ≤ (xs.length : Int) ∧ (xs.length : Int) ≤ m ∧ ∃ bs : List Bool, Paired (ItemOk K H g) xs bs ∧ bs.all id = false))
section
variable {P : Program} {w : World} {K : PySem.W.Frag} {mg : Str → Option Value} {base : Heap}
def sp_check_rowX (K : PySem.W.Frag) (CB : Addr) : Sp := fun vs H Q E => ∃ (v : V) (m g : Int), vs = [v, .int m, .int g] ∧
  ((∃ (a : Addr) (ns : List Int), v = .ref a ∧ Lst H a ns ∧ ns.length ≤ 900 ∧ RowOk ns m g ∧ ∀ H', Same H H' → Q .non H') ∨ (RowBad K H m g v ∧ ∀ H', Same H H' → E (.ref CB) none H'))
theorem rowOk_items {K : PySem.W.Frag} {H : Hp} {g : Int} : ∀ {ns : List Int}, (∀ x ∈ ns, 0 ≤ x ∧ x ≤ g) → Paired (ItemOk K H g) (ns.map V.int) (List.replicate ns.length true)
  | [], _ => .nil
  | n :: ns, h => by
    rw [List.map_cons, List.length_cons, List.replicate_succ]
    exact .cons (.inr ⟨n, rfl, (decide_eq_true (h n List.mem_cons_self)).symm⟩) (rowOk_items fun x hx => h x (List.mem_cons_of_mem _ hx))
theorem pdv_at {α β : Type} {F : α → β → Prop} : ∀ {vs : List α} {ps : List β} {i : Nat} {v : α}, Paired F vs ps → vs[i]? = some v → ∃ p, ps[i]? = some p ∧ F v p
  | _, _, _, _, .nil, e => by simp at e
  | _, _, 0, _, .cons r _, e => by simp at e; subst e; exact ⟨_, rfl, r⟩
  | _, _, i + 1, v, .cons _ t, e => by
    obtain ⟨p, h1, h2⟩ := pdv_at (i := i) (v := v) t (by simpa using e)
    exact ⟨p, by simpa using h1, h2⟩
theorem ok_check_rowX {f CB : Addr} {fd : FuncData} (F : Fun K "check_row" "check_row" s_check_row f fd) (B : Blt mg) (gB : mg "BadRow" = some (.ref CB)) (xB : XcF K CB) (cW : Cal CX0 P w K mg base "is_whole" ["thing"] 1 (sp_is_whole K)) :
    FnOk P w K mg base (L2.CX P w) 2 f fd ["row", "most", "greatest"] (sp_check_rowX K CB) := by
  refine F.okX sc_check_row (fun vs H Q E h => ?_) (fun cdv A outer s H vs Q E hr h => ?_)
  · obtain ⟨v, m, g, rfl, _⟩ := h
    rfl
  · obtain ⟨v, m, g, rfl, h⟩ := h
    refine ⟨_, pss_cons (ps_if (PW.pt (pw_or (pt_not (pt_val (pe_callB (r := rIsi K) call_isi (by rfl) B.isi PyProof.Rows.boot_isinstance (pa_cons (pv 0) (pa_cons (pe_bltn (v := .ty "list") (by rfl) B.list PyProof.Rows.boot_list rfl) pa_nil)))))
          (pw_or1 (pt_not (pt_chain op_le op_le pe_int (pe_callB call_len_seq (by rfl) B.len PySem.boot_len (pa_cons (pv 0) pa_nil)) (pv 1))))))
        (pss_one (ps_raise rfl (takes_of rfl rfl rfl rfl) (pmk_own PySem.F.excBase_ValueError xB.x gB xB.k (raises_own xB.b xB.t) rfl))) pss_nil)
      (pss_one (ps_if (pt_not (pt_val (pe_callB (r := rAll K) (cr_all rfl) (by rfl) B.all PyProof.Rows.boot_all (pa_cons
          (pe_lc (own := [("one", 3)]) (g := gName 3) (tt := tYes) rfl sc_check_row.nd (pi_list (pv 0)) (blkOk_by (N := ["row", "most", "greatest", "one"]) (sc := defScope s_check_row) (by decide +kernel))
            (fun _ _ _ _ _ => pg_name (i := 3) sc_check_row.nd rfl (Or.inl rfl)) (fun _ _ _ _ _ => pts_nil)
            (fun _ _ _ _ _ => pe_and (pe_cal cW hr (by rfl) (pa_cons (pv 3) pa_nil)) (pe_one (pe_chain op_le op_le pe_int (pv 3) (pv 2))))) pa_nil))))
        (pss_one (ps_raise rfl (takes_of rfl rfl rfl rfl) (pmk_own PySem.F.excBase_ValueError xB.x gB xB.k (raises_own xB.b xB.t) rfl))) pss_nil)), ?_⟩
    -- not a list, or a list
    have go : (NotTy K H v "list" ∧ E (.ref CB) none H) ∨ ∃ (a : Addr) (xs : List V), v = .ref a ∧ H a = some (.lst xs) ∧ xs.length ≤ 900 ∧
        ((¬ (1 ≤ (xs.length : Int) ∧ (xs.length : Int) ≤ m) ∧ E (.ref CB) none H) ∨ (1 ≤ (xs.length : Int) ∧ (xs.length : Int) ≤ m ∧ ∃ bs : List Bool, Paired (ItemOk K H g) xs bs ∧ ∀ H', Same H H' → if bs.all id = true then Q .non H' else E (.ref CB) none H')) := by
      rcases h with ⟨a, ns, ev, hL, hl, ⟨h1, h2, h3⟩, q⟩ | ⟨hb, e⟩
      · refine .inr ⟨a, _, ev, hL, by rw [List.length_map]; exact hl, .inr ⟨by rw [List.length_map]; omega, by rw [List.length_map]; exact h2, _, rowOk_items h3, fun H' s' => ?_⟩⟩
        rw [all_rep, if_pos rfl]
        exact q H' s'
      · rcases hb with hn | ⟨a, xs, ev, hL, hl, h | ⟨h1, h2, bs, hp, hb⟩⟩
        · exact .inl ⟨hn, e H (Same.refl _)⟩
        · exact .inr ⟨a, xs, ev, hL, hl, .inl ⟨h, e H (Same.refl _)⟩⟩
        · refine .inr ⟨a, xs, ev, hL, hl, .inr ⟨h1, h2, bs, hp, fun H' s' => ?_⟩⟩
          rw [hb, if_neg (by decide)]
          exact e H' s'
    clear h
    rcases go with ⟨⟨t, ht, hk⟩, e⟩ | ⟨a, xs, ev, hL, hl, h⟩
    · exact ⟨v, rfl, _, _, _, _, false, rfl, .ty _, ht H (LamX.ExtN.refl _), hk, false, rfl, iteT e⟩
    · subst ev
      refine ⟨.ref a, rfl, _, _, _, _, true, rfl, .ty _, .base (.lst hL), kit_ty (by decide +kernel), true, rfl, iteF ?_⟩
      refine ⟨.ref a, rfl, a, _, rfl, .inl (SqL.of hL), _, _, rfl, rfl, _, rfl, ?_⟩
      rcases h with ⟨hn, e⟩ | ⟨h1, h2, bs, hp, q⟩
      · by_cases c1 : (1 : Int) ≤ (xs.length : Int)
        · have c2 : ¬ (xs.length : Int) ≤ m := fun z => hn ⟨c1, z⟩
          refine itP (decide_eq_true c1) ⟨.int m, rfl, _, _, rfl, rfl, _, rfl, itP (by rw [decide_eq_false c2]; rfl) e⟩
        · refine itN (by rw [decide_eq_false c1]; decide) ⟨_, rfl, itP (by first | rfl | (rw [decide_eq_false c1]; rfl)) e⟩
      · refine itP (decide_eq_true h1) ⟨.int m, rfl, _, _, rfl, rfl, _, rfl, itN (by rw [decide_eq_true h2]; decide) ?_⟩
        have lb : xs.length = bs.length := Paired.length hp
        refine ⟨.ref a, rfl, a, rfl, ⟨_, SqL.of hL⟩, fun D hD => lc_list (K := K) (a := a) (xs := xs)
          (fun i H' => Same H H' ∧ H' D = some (.lst ((bs.take i).map V.bl))) ⟨same_new hD, upd_same⟩ (fun i H' _ h => SqL.of (h.1 _ _ hL)) (fun i x H' hx h => ?_) (fun H' h => ?_)⟩
        · obtain ⟨b, hbi, io⟩ := pdv_at hp hx
          have hil := (List.getElem?_eq_some_iff.mp hx).1
          have put : ∀ z : Bool, z = b → ∃ acc, H' D = some (.lst acc) ∧ acc.length < sizeLine ∧ Same H (upd H' D (.lst (acc ++ [V.bl z]))) ∧ (upd H' D (.lst (acc ++ [V.bl z]))) D = some (.lst ((bs.take (i + 1)).map V.bl)) := fun z ez => by
            refine ⟨_, h.2, small1000 (by rw [List.length_map, List.length_take]; omega), fun b2 o e => ?_, ?_⟩
            · rw [upd_ne (ne_of_none e hD)]
              exact h.1 b2 o e
            · rw [upd_same, List.take_add_one, hbi, List.map_append, ez]
              rfl
          rcases io with ⟨eb, hw⟩ | ⟨n, rfl, eb⟩
          · refine ⟨rfl, iteT (B := True) ⟨x, rfl, _, false, rfl, hw _ (.of h.1), false, rfl, iteF ?_⟩⟩
            exact put false eb.symm
          · refine ⟨rfl, iteT (B := True) ⟨.int n, rfl, _, true, rfl, whole_int n, true, rfl, iteT ⟨.int n, rfl, _, _, rfl, rfl, _, rfl, ?_⟩⟩⟩
            by_cases c1 : (0 : Int) ≤ n
            · refine itP (decide_eq_true c1) ⟨.int g, rfl, _, _, rfl, rfl, ?_⟩
              refine put _ ?_
              rw [eb]
              by_cases c2 : n ≤ g <;> simp [c1, c2]
            · refine itN (by rw [decide_eq_false c1]; decide) ?_
              have e0 : decide ((0 : Int) ≤ n) = false := decide_eq_false c1
              first
                | exact put _ (by rw [eb]; simp [c1])
                | exact put false (by rw [eb]; simp [c1])
        · have e := q H' h.1
          have hD2 := h.2
          rw [lb, List.take_length] at hD2
          refine ⟨D, bs, rfl, SqL.of hD2, _, rfl, ?_⟩
          cases cb : bs.all id with
          | true =>
            rw [cb, if_pos rfl] at e
            exact itN (by decide) e
          | false =>
            rw [cb, if_neg (by decide)] at e
            exact itP (by decide) e
end
end EG

/-! The doors, with what they refuse. -/
namespace EG
open PySem L2
def Wh (K : PySem.W.Frag) (H : Hp) (x : V) (b : Bool) : Prop := ∀ H', LamX.ExtN H H' → Whole K H' x b
theorem Wh.int {K : PySem.W.Frag} {H : Hp} (i : Int) : Wh K H (.int i) true := fun _ _ => whole_int i
theorem NotTy.ext {K : PySem.W.Frag} {H H1 : Hp} {v : V} {T : String} (s : LamX.ExtN H H1) (h : NotTy K H v T) : NotTy K H1 v T := by
  obtain ⟨t, h1, h2⟩ := h
  exact ⟨t, fun H' s' => h1 H' (s.trans s'), h2⟩
theorem Wh.ext {K : PySem.W.Frag} {H H1 : Hp} {x : V} {b : Bool} (s : LamX.ExtN H H1) (h : Wh K H x b) : Wh K H1 x b := fun H' s' => h H' (s.trans s')
theorem NotTy.mono {K : PySem.W.Frag} {H H1 : Hp} {v : V} {T : String} (s : Same H H1) (h : NotTy K H v T) : NotTy K H1 v T := h.ext (.of s)
theorem Wh.mono {K : PySem.W.Frag} {H H1 : Hp} {x : V} {b : Bool} (s : Same H H1) (h : Wh K H x b) : Wh K H1 x b := h.ext (.of s)
/-- what is no evening of such a row -/
def PairBad (K : PySem.W.Frag) (H : Hp) (ns : List Int) (v : V) : Prop := NotTy K H v "tuple" ∨ ∃ (e : Addr) (xs : List V), v = .ref e ∧ H e = some (.tup xs) ∧
  (xs.length ≠ 2 ∧ xs.length ≤ 900 ∨ xs.length = 2 ∧ (∃ bs : List Bool, Paired (Wh K H) xs bs ∧ bs.all id = false) ∨ ∃ p : Pr, xs = [.int p.1, .int p.2] ∧ p ∉ evs ns)
section
variable {P : Program} {w : World} {K : PySem.W.Frag} {mg : Str → Option Value} {base : Heap}
def sp_badX (K : PySem.W.Frag) (CB : Addr) (m g : Int) : Sp := fun vs H _ E => ∃ v, vs = [v] ∧ RowBad K H m g v ∧ ∀ H', Same H H' → E (.ref CB) none H'
theorem ok_eveningsX {f CB : Addr} {fd : FuncData} {t1 t2 : Tok} (F : Fun K "evenings" "evenings" s_evenings f fd) (cC : Cal (L2.CX P w) P w K mg base "check_row" ["row", "most", "greatest"] 2 (sp_check_rowX K CB))
    (g1 : mg "MOST" = some (.int 12 t1)) (g2 : mg "GREATEST" = some (.int 1000000 t2)) : FnOk P w K mg base (L2.CX P w) 3 f fd ["row"] (sp_badX K CB 12 1000000) := by
  refine F.okX sc_evenings (fun vs H Q E h => ?_) (fun cdv A outer s H vs Q E hr h => ?_)
  · obtain ⟨v, rfl, _⟩ := h
    rfl
  · obtain ⟨v, rfl, hb, e⟩ := h
    refine ⟨_, pss_cons (ps_expr (pe_calX cC hr (passes_call (takes_of rfl rfl rfl rfl) (fun _ _ _ _ h => h)) (by rfl) (pa_cons (pv 0) (pa_cons (pe_glob (v := .int 12) (by rfl) g1 ⟨_, rfl⟩) (pa_cons (pe_glob (v := .int 1000000) (by rfl) g2 ⟨_, rfl⟩) pa_nil)))))
      (pss_one ps_never), ?_⟩
    exact ⟨v, rfl, v, 12, 1000000, rfl, .inr ⟨hb, e⟩⟩
theorem ok_aliX {f CB : Addr} {fd : FuncData} {t1 t2 : Tok} (F : Fun K "alike" "alike" s_alike f fd) (cC : Cal (L2.CX P w) P w K mg base "check_row" ["row", "most", "greatest"] 2 (sp_check_rowX K CB))
    (g1 : mg "FEW" = some (.int 5 t1)) (g2 : mg "SMALL" = some (.int 20 t2)) : FnOk P w K mg base (L2.CX P w) 3 f fd ["row"] (sp_badX K CB 5 20) := by
  refine F.okX sc_alike (fun vs H Q E h => ?_) (fun cdv A outer s H vs Q E hr h => ?_)
  · obtain ⟨v, rfl, _⟩ := h
    rfl
  · obtain ⟨v, rfl, hb, e⟩ := h
    refine ⟨_, pss_cons (ps_expr (pe_calX cC hr (passes_call (takes_of rfl rfl rfl rfl) (fun _ _ _ _ h => h)) (by rfl) (pa_cons (pv 0) (pa_cons (pe_glob (v := .int 5) (by rfl) g1 ⟨_, rfl⟩) (pa_cons (pe_glob (v := .int 20) (by rfl) g2 ⟨_, rfl⟩) pa_nil)))))
      (pss_cons ps_never (pss_one ps_never)), ?_⟩
    exact ⟨v, rfl, v, 5, 20, rfl, .inr ⟨hb, e⟩⟩
theorem ok_fewX {f CB : Addr} {fd : FuncData} {t1 t2 : Tok} (F : Fun K "fewest_most" "fewest_most" s_fewest_most f fd) (cC : Cal (L2.CX P w) P w K mg base "check_row" ["row", "most", "greatest"] 2 (sp_check_rowX K CB))
    (g1 : mg "FEW" = some (.int 5 t1)) (g2 : mg "SMALL" = some (.int 20 t2)) : FnOk P w K mg base (L2.CX P w) 3 f fd ["row"] (sp_badX K CB 5 20) := by
  refine F.okX sc_fewest_most (fun vs H Q E h => ?_) (fun cdv A outer s H vs Q E hr h => ?_)
  · obtain ⟨v, rfl, _⟩ := h
    rfl
  · obtain ⟨v, rfl, hb, e⟩ := h
    refine ⟨_, pss_cons (ps_expr (pe_calX cC hr (passes_call (takes_of rfl rfl rfl rfl) (fun _ _ _ _ h => h)) (by rfl) (pa_cons (pv 0) (pa_cons (pe_glob (v := .int 5) (by rfl) g1 ⟨_, rfl⟩) (pa_cons (pe_glob (v := .int 20) (by rfl) g2 ⟨_, rfl⟩) pa_nil)))))
      (pss_one ps_never), ?_⟩
    exact ⟨v, rfl, v, 5, 20, rfl, .inr ⟨hb, e⟩⟩
def sp_settledX (K : PySem.W.Frag) (CB : Addr) : Sp := fun vs H Q E => sp_settled vs H Q E ∨ sp_badX K CB 12 1000000 vs H Q E
theorem ok_settledX {f CB : Addr} {fd : FuncData} {t1 t2 : Tok} (F : Fun K "settled" "settled" s_settled f fd) (cC : Cal (L2.CX P w) P w K mg base "check_row" ["row", "most", "greatest"] 2 (sp_check_rowX K CB))
    (cE : Cal CX0 P w K mg base "evenings_of" ["row"] 1 (sp_evenings_of K)) (g1 : mg "MOST" = some (.int 12 t1)) (g2 : mg "GREATEST" = some (.int 1000000 t2)) : FnOk P w K mg base (L2.CX P w) 3 f fd ["row"] (sp_settledX K CB) := by
  refine F.okX sc_settled (fun vs H Q E h => ?_) (fun cdv A outer s H vs Q E hr h => ?_)
  · rcases h with ⟨a, ns, rfl, _⟩ | ⟨v, rfl, _⟩ <;> rfl
  · obtain ⟨v, rfl⟩ : ∃ v, vs = [v] := by rcases h with ⟨a, ns, rfl, _⟩ | ⟨v, rfl, _⟩ <;> exact ⟨_, rfl⟩
    refine ⟨_, pss_cons (ps_expr (pe_calX cC hr (passes_call (takes_of rfl rfl rfl rfl) (fun _ _ _ _ h => h)) (by rfl) (pa_cons (pv 0) (pa_cons (pe_glob (v := .int 12) (by rfl) g1 ⟨_, rfl⟩) (pa_cons (pe_glob (v := .int 1000000) (by rfl) g2 ⟨_, rfl⟩) pa_nil)))))
      (PSs.nox (pss_one (ps_ret (pe_cmpR (r := rEqD K) (op_eqD hr.units) (pe_cal cE hr (by rfl) (pa_cons (pv 0) pa_nil)) (pe_lst pa_nil) (nomark _))))), ?_⟩
    rcases h with ⟨a, ns, ev, hL, ok, q⟩ | ⟨v, ev, hb, e⟩
    · cases ev
      have l12 := ok.len12
      refine ⟨.ref a, rfl, .ref a, 12, 1000000, rfl, .inl ⟨a, ns, rfl, hL, by omega, ok, fun H1 s1 => ?_⟩⟩
      refine ⟨.ref a, rfl, a, ns, rfl, (hL.mono s1).sq, l12, fun H2 p ws s2 hp e r => ?_⟩
      refine ⟨Nat.zero_le _, fun z hz => ?_⟩
      have s3 : Same H2 (upd H2 z (.lst [])) := same_new hz
      refine ⟨prsD (evs ns), prsD [], dp_prs (SqL.of (s3 _ _ e)) (r.mono (Same.tups s3)), dp_prs (SqL.of upd_same) .nil, shaped_prs _, shaped_prs _, ?_⟩
      rw [eqv_prs]
      exact q _ ((s1.trans s2).trans s3)
    · cases ev
      exact ⟨v, rfl, v, 12, 1000000, rfl, .inr ⟨hb, e⟩⟩
def sp_check_eveningX (K : PySem.W.Frag) (CB CE : Addr) : Sp := fun vs H Q E => ∃ v u, vs = [v, u] ∧ ((RowBad K H 12 1000000 v ∧ ∀ H', Same H H' → E (.ref CB) none H') ∨ ∃ (a : Addr) (ns : List Int), v = .ref a ∧ Lst H a ns ∧ RowOk ns 12 1000000 ∧
  ((PairBad K H ns u ∧ ∀ H', Same H H' → E (.ref CE) none H') ∨ ∃ (e : Addr) (p : Pr), u = .ref e ∧ H e = some (.tup [.int p.1, .int p.2]) ∧ p ∈ evs ns ∧ ∀ H', Same H H' → Q .non H'))
theorem ok_check_eveningX {f CB CE : Addr} {fd : FuncData} {t1 t2 : Tok} (F : Fun K "check_evening" "check_evening" s_check_evening f fd) (B : Blt mg) (gE : mg "BadEvening" = some (.ref CE)) (xE : XcF K CE) (cW : Cal CX0 P w K mg base "is_whole" ["thing"] 1 (sp_is_whole K))
    (cC : Cal (L2.CX P w) P w K mg base "check_row" ["row", "most", "greatest"] 2 (sp_check_rowX K CB))
    (cE : Cal CX0 P w K mg base "evenings_of" ["row"] 1 (sp_evenings_of K)) (g1 : mg "MOST" = some (.int 12 t1)) (g2 : mg "GREATEST" = some (.int 1000000 t2)) : FnOk P w K mg base (L2.CX P w) 3 f fd ["row", "evening"] (sp_check_eveningX K CB CE) := by
  refine F.okX sc_check_evening (fun vs H Q E h => ?_) (fun cdv A outer s H vs Q E hr h => ?_)
  · obtain ⟨v, u, rfl, _⟩ := h
    rfl
  · obtain ⟨v, u, rfl, h⟩ := h
    refine ⟨_, pss_cons (ps_expr (pe_calX cC hr (passes_call (takes_of rfl rfl rfl rfl) (fun _ _ _ _ h => h)) (by rfl) (pa_cons (pv 0) (pa_cons (pe_glob (v := .int 12) (by rfl) g1 ⟨_, rfl⟩) (pa_cons (pe_glob (v := .int 1000000) (by rfl) g2 ⟨_, rfl⟩) pa_nil)))))
      (pss_cons (ps_if (PW.pt (pw_or (pt_not (pt_val (pe_callB (r := rIsi K) call_isi (by rfl) B.isi PyProof.Rows.boot_isinstance (pa_cons (pv 1) (pa_cons (pe_bltn (v := .ty "tuple") (by rfl) B.tuple PyProof.Rows.boot_tuple rfl) pa_nil)))))
          (pw_or (pt_cmpR op_ne (pe_callB (r := rLenS K) call_len_seq (by rfl) B.len PySem.boot_len (pa_cons (pv 1) pa_nil)) pe_int (nomark _))
          (pw_or1 (pt_not (pt_val (pe_callB (r := rAll K) (cr_all rfl) (by rfl) B.all PyProof.Rows.boot_all (pa_cons
            (pe_lc (own := [("one", 2)]) (g := gName 2) (tt := tYes) rfl sc_check_evening.nd (pi_tup (pv 1)) (blkOk_by (N := ["row", "evening", "one"]) (sc := defScope s_check_evening) (by decide +kernel))
              (fun _ _ _ _ _ => pg_name (i := 2) sc_check_evening.nd rfl (Or.inl rfl)) (fun _ _ _ _ _ => pts_nil)
              (fun _ _ _ _ _ => pe_cal cW hr (by rfl) (pa_cons (pv 2) pa_nil))) pa_nil))))))))
        (pss_one (ps_raise rfl (takes_of rfl rfl rfl rfl) (pmk_own PySem.F.excBase_ValueError xE.x gE xE.k (raises_own xE.b xE.t) rfl))) pss_nil)
      (pss_one (ps_if (pt_cmpR (op_notInD (room65 hr)) (pv 1) (pe_cal cE hr (by rfl) (pa_cons (pv 0) pa_nil)) (by rfl))
        (pss_one (ps_raise rfl (takes_of rfl rfl rfl rfl) (pmk_own PySem.F.excBase_ValueError xE.x gE xE.k (raises_own xE.b xE.t) rfl))) pss_nil))), ?_⟩
    rcases h with ⟨hb, e⟩ | ⟨a, ns, rfl, hL, ok, h⟩
    · exact ⟨v, rfl, v, 12, 1000000, rfl, .inr ⟨hb, e⟩⟩
    have l12 := ok.len12
    refine ⟨.ref a, rfl, .ref a, 12, 1000000, rfl, .inl ⟨a, ns, rfl, hL, by omega, ok, fun H1 s1 => ?_⟩⟩
    -- what the pair is
    have go : (NotTy K H u "tuple" ∧ ∀ H', Same H H' → E (.ref CE) none H') ∨ ∃ (e : Addr) (xs : List V), u = .ref e ∧ H e = some (.tup xs) ∧ ((xs.length ≠ 2 ∧ xs.length ≤ 900 ∧ ∀ H', Same H H' → E (.ref CE) none H') ∨
        (xs.length = 2 ∧ ∃ bs : List Bool, Paired (Wh K H) xs bs ∧ ((bs.all id = false ∧ ∀ H', Same H H' → E (.ref CE) none H') ∨ (bs.all id = true ∧ ∃ p : Pr, xs = [.int p.1, .int p.2] ∧ ∀ H', Same H H' → if p ∈ evs ns then Q .non H' else E (.ref CE) none H')))) := by
      have two : ∀ p : Pr, Paired (Wh K H) [.int p.1, .int p.2] [true, true] := fun p => .cons (Wh.int _) (.cons (Wh.int _) .nil)
      rcases h with ⟨hb, e⟩ | ⟨e, p, rfl, he, hp, q⟩
      · rcases hb with hn | ⟨e1, xs, rfl, he, ⟨hn, hl⟩ | ⟨h2, bs, hp, hb⟩ | ⟨p, rfl, hp⟩⟩
        · exact .inl ⟨hn, e⟩
        · exact .inr ⟨e1, xs, rfl, he, .inl ⟨hn, hl, e⟩⟩
        · exact .inr ⟨e1, xs, rfl, he, .inr ⟨h2, bs, hp, .inl ⟨hb, e⟩⟩⟩
        · exact .inr ⟨e1, _, rfl, he, .inr ⟨rfl, _, two p, .inr ⟨rfl, p, rfl, fun H' s' => by rw [if_neg hp]; exact e H' s'⟩⟩⟩
      · exact .inr ⟨e, _, rfl, he, .inr ⟨rfl, _, two p, .inr ⟨rfl, p, rfl, fun H' s' => by rw [if_pos hp]; exact q H' s'⟩⟩⟩
    clear h
    rcases go with ⟨⟨t, ht, hk⟩, e⟩ | ⟨e, xs, rfl, hT, h⟩
    · exact ⟨u, rfl, _, _, _, _, false, rfl, .ty _, ht H1 (.of s1), hk, false, rfl, iteT (e H1 s1)⟩
    have hT1 := s1 _ _ hT
    refine ⟨.ref e, rfl, _, _, _, _, true, rfl, .ty _, .base (.tup hT1), kit_ty (by decide +kernel), true, rfl, iteF ?_⟩
    refine ⟨.ref e, rfl, e, _, rfl, .inr (SqT.of hT1), rfl, _, rfl, ?_⟩
    rw [dec_int]
    rcases h with ⟨hn, hl, eE⟩ | ⟨h2, bs, hp, h⟩
    · have hn' : ¬ ((xs.length : Int) = 2) := by omega
      refine itP (by rw [decide_eq_false hn']; rfl) ?_
      exact eE H1 s1
    · have h2' : ((xs.length : Int) = 2) := by omega
      refine itN (by rw [decide_eq_true h2']; decide) ?_
      have lb : xs.length = bs.length := Paired.length hp
      refine ⟨.ref e, rfl, e, rfl, ⟨_, SqT.of hT1⟩, fun D hD => lc_tup (K := K) (a := e) (xs := xs)
        (fun i H' => Same H1 H' ∧ H' D = some (.lst ((bs.take i).map V.bl))) ⟨same_new hD, upd_same⟩ (fun i H' _ h => SqT.of (h.1 _ _ hT1)) (fun i x H' hx h => ?_) (fun H' h3 => ?_)⟩
      · obtain ⟨b, hbi, io⟩ := pdv_at hp hx
        have hil := (List.getElem?_eq_some_iff.mp hx).1
        refine ⟨rfl, iteT (B := True) ⟨x, rfl, _, b, rfl, io _ (.of (s1.trans h.1)), ?_⟩⟩
        refine ⟨_, h.2, small1000 (by rw [List.length_map, List.length_take]; omega), same_upd2 h.1 hD, ?_⟩
        rw [upd_same, List.take_add_one, hbi, List.map_append]
        rfl
      · have hD2 := h3.2
        rw [lb, List.take_length] at hD2
        refine ⟨D, bs, rfl, SqL.of hD2, _, rfl, ?_⟩
        have sH' := s1.trans h3.1
        rcases h with ⟨hb, eE⟩ | ⟨hb, p, rfl, q⟩
        · rw [hb]
          exact iteT (eE H' sH')
        · rw [hb]
          refine iteF ?_
          refine ⟨.ref e, rfl, .ref a, rfl, a, ns, rfl, ((hL.mono s1).mono h3.1).sq, l12, fun H2 o ws s2 ho e1 r => ?_⟩
          refine ⟨prD p, (evs ns).map prD, dp_prT (SqT.of (s2 _ _ (h3.1 _ _ hT1))), dp_prs (SqL.of e1) r, shaped_pr _, shaped_prs _, _, rfl, ?_⟩
          rw [any_prs]
          have q2 := q H2 (sH'.trans s2)
          by_cases c : p ∈ evs ns
          · rw [if_pos c] at q2
            rw [decide_eq_true c]
            exact iteF q2
          · rw [if_neg c] at q2
            rw [decide_eq_false c]
            exact iteT q2
end
end EG

/-! evened, fall, with what they refuse. -/
namespace EG
open PySem L2
section
variable {P : Program} {w : World} {K : PySem.W.Frag} {mg : Str → Option Value} {base : Heap}
def sp_bad2X (K : PySem.W.Frag) (CB CE : Addr) : Sp := fun vs H _ E => ∃ v u, vs = [v, u] ∧ ((RowBad K H 12 1000000 v ∧ ∀ H', Same H H' → E (.ref CB) none H') ∨ ∃ (a : Addr) (ns : List Int), v = .ref a ∧ Lst H a ns ∧ RowOk ns 12 1000000 ∧
  PairBad K H ns u ∧ ∀ H', Same H H' → E (.ref CE) none H')
def sp_evenedX (K : PySem.W.Frag) (CB CE : Addr) : Sp := fun vs H Q E => sp_evened vs H Q E ∨ sp_bad2X K CB CE vs H Q E
def sp_fallX (K : PySem.W.Frag) (CB CE : Addr) : Sp := fun vs H Q E => sp_fall vs H Q E ∨ sp_bad2X K CB CE vs H Q E
theorem ok_evenedX {f CB CE : Addr} {fd : FuncData} (F : Fun K "evened" "evened" s_evened f fd) (cC : Cal (L2.CX P w) P w K mg base "check_evening" ["row", "evening"] 3 (sp_check_eveningX K CB CE))
    (cB : Cal CX0 P w K mg base "behind" ["row", "evening"] 1 (sp_behind K)) : FnOk P w K mg base (L2.CX P w) 4 f fd ["row", "evening"] (sp_evenedX K CB CE) := by
  refine F.okX sc_evened (fun vs H Q E h => ?_) (fun cdv A outer s H vs Q E hr h => ?_)
  · rcases h with ⟨a, e, ns, p, rfl, _⟩ | ⟨v, u, rfl, _⟩ <;> rfl
  · obtain ⟨v, u, rfl⟩ : ∃ v u, vs = [v, u] := by rcases h with ⟨a, e, ns, p, rfl, _⟩ | ⟨v, u, rfl, _⟩ <;> exact ⟨_, _, rfl⟩
    refine ⟨_, pss_cons (ps_expr (pe_calX cC hr (passes_call (takes_of rfl rfl rfl rfl) (fun _ _ _ _ h => h)) (by rfl) (pa_cons (pv 0) (pa_cons (pv 1) pa_nil)))) (PSs.nox (pss_one (ps_ret (pe_cal cB hr (by rfl) (pa_cons (pv 0) (pa_cons (pv 1) pa_nil)))))), ?_⟩
    rcases h with ⟨a, e, ns, p, ev, hL, ok, hT, hp, q⟩ | ⟨v, u, ev, h⟩
    · cases ev
      refine ⟨.ref a, rfl, .ref e, rfl, .ref a, .ref e, rfl, .inr ⟨a, ns, rfl, hL, ok, .inr ⟨e, p, rfl, hT, hp, fun H1 s1 => ?_⟩⟩⟩
      obtain ⟨i, j, ep, hij, hj, hg⟩ := mem_evs.mp hp
      subst ep
      have l12 := ok.len12
      refine ⟨.ref a, rfl, .ref e, rfl, a, e, ns, i, j, rfl, (hL.mono s1).sq, SqT.of (s1 _ _ hT), by omega, hj, l12, fun H2 o s2 ho h2 => ?_⟩
      exact q H2 o (s1.trans s2) (s1.free ho) h2
    · cases ev
      refine ⟨v, rfl, u, rfl, v, u, rfl, ?_⟩
      rcases h with h | ⟨a, ns, ev, hL, ok, hb, e⟩
      · exact .inl h
      · exact .inr ⟨a, ns, ev, hL, ok, .inl ⟨hb, e⟩⟩
theorem ok_fallX {f CB CE : Addr} {fd : FuncData} (F : Fun K "fall" "fall" s_fall f fd) (cC : Cal (L2.CX P w) P w K mg base "check_evening" ["row", "evening"] 3 (sp_check_eveningX K CB CE)) : FnOk P w K mg base (L2.CX P w) 4 f fd ["row", "evening"] (sp_fallX K CB CE) := by
  refine F.okX sc_fall (fun vs H Q E h => ?_) (fun cdv A outer s H vs Q E hr h => ?_)
  · rcases h with ⟨a, e, ns, p, rfl, _⟩ | ⟨v, u, rfl, _⟩ <;> rfl
  · obtain ⟨v, u, rfl⟩ : ∃ v u, vs = [v, u] := by rcases h with ⟨a, e, ns, p, rfl, _⟩ | ⟨v, u, rfl, _⟩ <;> exact ⟨_, _, rfl⟩
    refine ⟨_, pss_cons (ps_expr (pe_calX cC hr (passes_call (takes_of rfl rfl rfl rfl) (fun _ _ _ _ h => h)) (by rfl) (pa_cons (pv 0) (pa_cons (pv 1) pa_nil))))
      (PSs.nox (pss_cons (ps_set (i := 2) sc_fall.nd rfl (.inl rfl) (pe_op op_sub (pe_ix (r := rIxL K) ix_list (pv 0) (pe_ix (r := rIxT K) ix_tup (pv 1) pe_int (fun _ _ => rfl)) (fun _ _ => rfl)) (pe_ix (r := rIxL K) ix_list (pv 0) (pe_ix (r := rIxT K) ix_tup (pv 1) pe_int (fun _ _ => rfl)) (fun _ _ => rfl))))
      (pss_one (ps_ret (pe_op op_fdiv (pe_op op_mul (pv 2) (pv 2)) pe_int))))), ?_⟩
    rcases h with ⟨a, e, ns, p, ev, hL, ok, hT, hp, q⟩ | ⟨v, u, ev, h⟩
    · cases ev
      refine ⟨.ref a, rfl, .ref e, rfl, .ref a, .ref e, rfl, .inr ⟨a, ns, rfl, hL, ok, .inr ⟨e, p, rfl, hT, hp, fun H1 s1 => ?_⟩⟩⟩
      obtain ⟨i, j, ep, hij, hj, hg⟩ := mem_evs.mp hp
      subst ep
      have hT1 := s1 _ _ hT
      have hS := (hL.mono s1).sq (K := K)
      have hi : i < ns.length := by omega
      have a1 := ok.getD hi
      have a2 := ok.getD hj
      refine ⟨.ref a, rfl, .ref e, rfl, e, _, 0, .int (i : Int), rfl, rfl, SqT.of hT1, rfl, a, _, _, _, rfl, rfl, hS, atI_nat (row_get hi), .ref a, rfl, .ref e, rfl, e, _, 1, .int (j : Int), rfl, rfl, SqT.of hT1, rfl, a, _, _, _, rfl, rfl, hS, atI_nat (row_get hj), _, _, rfl, rfl, ?_⟩
      refine ⟨_, rfl, _, rfl, _, _, rfl, rfl, .inl ⟨by omega, by omega⟩, _, _, rfl, rfl, ⟨by decide, by decide⟩, ?_⟩
      exact q H1 s1
    · cases ev
      refine ⟨v, rfl, u, rfl, v, u, rfl, ?_⟩
      rcases h with h | ⟨a, ns, ev, hL, ok, hb, e⟩
      · exact .inl h
      · exact .inr ⟨a, ns, ev, hL, ok, .inl ⟨hb, e⟩⟩
end
end EG

/-! ends, with what it refuses. -/
namespace EG
open PySem L2
section
variable {P : Program} {w : World} {K : PySem.W.Frag} {mg : Str → Option Value} {base : Heap}
def sp_endsX (K : PySem.W.Frag) (CB : Addr) : Sp := fun vs H Q E => sp_ends vs H Q E ∨ sp_badX K CB 5 20 vs H Q E
theorem ok_endsX {f CB : Addr} {fd : FuncData} {t1 t2 : Tok} (F : Fun K "ends" "ends" s_ends f fd) (B : Blt mg) (g_FEW : mg "FEW" = some (.int 5 t1)) (g_SMALL : mg "SMALL" = some (.int 20 t2))
    (c_check_row : Cal (L2.CX P w) P w K mg base "check_row" ["row", "most", "greatest"] 2 (sp_check_rowX K CB)) (c_evenings_of : Cal CX0 P w K mg base "evenings_of" ["row"] 1 (sp_evenings_of K))
    (c_behind : Cal CX0 P w K mg base "behind" ["row", "evening"] 1 (sp_behind K)) : FnOk P w K mg base (L2.CX P w) 3 f fd ["row"] (sp_endsX K CB) := by
  refine F.okX sc_ends (fun vs H Q E h => ?_) (fun cdv A outer s H vs Q E hr h => ?_)
  · rcases h with ⟨a, ns, rfl, _⟩ | ⟨v, rfl, _⟩ <;> rfl
  · obtain ⟨v, rfl⟩ : ∃ v, vs = [v] := by rcases h with ⟨a, ns, rfl, _⟩ | ⟨v, rfl, _⟩ <;> exact ⟨_, rfl⟩
    refine ⟨_, (pss_cons (ps_expr (pe_calX c_check_row hr (passes_call (takes_of rfl rfl rfl rfl) (fun _ _ _ _ h => h)) (by rfl) (pa_cons (pv 0) (pa_cons (pe_glob (v := .int 5) (by rfl) g_FEW ⟨_, rfl⟩) (pa_cons (pe_glob (v := .int 20) (by rfl) g_SMALL ⟨_, rfl⟩) pa_nil)))))
    (PSs.nox (pss_cons (ps_par3 (i := 1) (j := 2) (l := 3) rfl sc_ends.nd rfl rfl rfl (by decide) (by decide) (by decide) rfl rfl rfl (pa_cons (pe_lst pa_nil) (pa_cons (pe_lst (pa_cons (pe_callTy (r := rListOf K) call_list_of (by rfl) B.list PyProof.Rows.boot_list (pa_cons (pv 0) pa_nil)) pa_nil)) (pa_cons (pe_dispT (hu_of hr) (pe_callTy (r := rTupOf K) call_tuple_of (by rfl) B.tuple PyProof.Rows.boot_tuple (pa_cons (pv 0) pa_nil)) pe_bl) pa_nil))) (by rfl))
    (pss_cons (ps_while PassesOwn.never (pt_cmpR (r := rNeD K) (op_neD hr.units) (pv 2) (pe_lst pa_nil) (nomark _))
    (pss_cons (ps_set (i := 4) sc_ends.nd rfl (.inl rfl) (pe_bm0 PySem.F.plainAttrs_list PySem.F.slot_list_pop PySem.F.type_list_pop mt_pop (pv 2)))
      (pss_cons (ps_set (i := 5) sc_ends.nd rfl (.inl rfl) (pe_cal c_evenings_of hr (by rfl) (pa_cons (pv 4) pa_nil)))
      (pss_cons (ps_if (pt_cmpR (r := rEqD K) (op_eqD hr.units) (pv 5) (pe_lst pa_nil) (nomark _))
      (pss_one (ps_expr (pe_bm PySem.F.plainAttrs_list PySem.F.slot_list_append PySem.F.type_list_append mt_append (pv 1) (pa_cons (pv 4) pa_nil))))
      pss_nil)
      (pss_one (ps_for PassesOwn.never rfl (pi_list (pv 5)) (pg_name (i := 6) sc_ends.nd rfl (.inl rfl))
      (pss_cons (ps_set (i := 7) sc_ends.nd rfl (.inl rfl) (pe_cal c_behind hr (by rfl) (pa_cons (pv 4) (pa_cons (pv 6) pa_nil))))
        (pss_one (ps_if (pt_cmp (pc_dnotin (hu_of hr) (pe_callTy (r := rTupOf K) call_tuple_of (by rfl) B.tuple PyProof.Rows.boot_tuple (pa_cons (pv 7) pa_nil)) (pv 3)))
        (pss_cons (ps_dput (hu_of hr) (pv 3) (pe_callTy (r := rTupOf K) call_tuple_of (by rfl) B.tuple PyProof.Rows.boot_tuple (pa_cons (pv 7) pa_nil)) pe_bl rfl)
          (pss_one (ps_expr (pe_bm PySem.F.plainAttrs_list PySem.F.slot_list_append PySem.F.type_list_append mt_append (pv 2) (pa_cons (pv 7) pa_nil)))))
        pss_nil)))))))))
    (pss_one (ps_ret (pe_callB (cr_sortRows (room65 hr)) (by rfl) B.sorted PyProof.Rows.boot_sorted (pa_cons (pv 1) pa_nil)))))))), ?_⟩
    rcases h with ⟨a, ns, ev, hL, ok, q⟩ | ⟨v, ev, hb, e⟩
    rotate_left
    · cases ev
      exact ⟨v, rfl, v, 5, 20, rfl, .inr ⟨hb, e⟩⟩
    cases ev
    refine ⟨.ref a, rfl, .ref a, 5, 20, rfl, .inl ⟨a, ns, rfl, hL, by have := ok.len5; omega, ok, fun H1 s1 => ?_⟩⟩
    have hL1 := hL.mono s1
    refine ⟨Nat.zero_le _, fun fo hfo => ?_⟩
    have a1 : Same H1 (upd H1 fo (.lst [])) := same_new hfo
    have hfo2 : (upd H1 fo (.lst [])) fo = some (.lst []) := upd_same
    have hfoH : H fo = none := s1.free hfo
    generalize upd H1 fo (.lst []) = H2 at a1 hfo2
    refine ⟨.ref a, rfl, a, _, rfl, .inl (hL1.mono a1).sq, fun b0 hb0 => ?_⟩
    have a2 : Same H2 (upd H2 b0 (.lst (ns.map V.int))) := same_new hb0
    have hb02 : Lst (upd H2 b0 (.lst (ns.map V.int))) b0 ns := upd_same
    have hb0H : H b0 = none := (s1.trans a1).free hb0
    have nb0 : b0 ≠ fo := (ne_of_none hfo2 hb0).symm
    generalize upd H2 b0 (.lst (ns.map V.int)) = H3 at a2 hb02
    refine ⟨(by show 1 ≤ sizeLine; decide), fun wa hwa => ?_⟩
    have a3 : Same H3 (upd H3 wa (.lst [.ref b0])) := same_new hwa
    have hwa4 : (upd H3 wa (.lst [.ref b0])) wa = some (.lst [.ref b0]) := upd_same
    have hwaH : H wa = none := ((s1.trans a1).trans a2).free hwa
    have nbw : b0 ≠ wa := ne_of_none hb02 hwa
    have nfw : fo ≠ wa := ne_of_none (a2 _ _ hfo2) hwa
    have hfo4 := a3 _ _ (a2 _ _ hfo2)
    have hb04 := hb02.mono a3
    have s4 : Same H (upd H3 wa (.lst [.ref b0])) := ((s1.trans a1).trans a2).trans a3
    generalize upd H3 wa (.lst [.ref b0]) = H4 at a3 hwa4 hfo4 hb04 s4
    refine fun me hme => ?_
    have hmeH : H me = none := s4.free hme
    have a4 : Same H4 (upd H4 me (.dT [])) := same_new hme
    refine ⟨.ref a, rfl, a, _, rfl, .inl ⟨((hL.mono s4).mono a4).sq, fun t ht => ?_⟩⟩
    have a5 : Same (upd H4 me (.dT [])) (upd (upd H4 me (.dT [])) t (.tup (ns.map V.int))) := same_new ht
    have hme5 := a5 _ _ (show (upd H4 me (.dT [])) me = some (.dT []) from upd_same)
    refine ⟨t, rowKey ns, rfl, hme5, by rw [rowKey_V]; exact upd_same, _, _, _, rfl, ?_⟩
    have l6 : Lsts H4 (upd (upd (upd H4 me (.dT [])) t (.tup (ns.map V.int))) me (.dT [(rowKey ns, .bl true)])) := (Same.lsts (a4.trans a5)).trans (lsts_dT hme5)
    have s6 : Same H (upd (upd (upd H4 me (.dT [])) t (.tup (ns.map V.int))) me (.dT [(rowKey ns, .bl true)])) := same_upd2 ((s4.trans a4).trans a5) hmeH
    have hme6 : (upd (upd (upd H4 me (.dT [])) t (.tup (ns.map V.int))) me (.dT [(rowKey ns, .bl true)])) me = some (.dT (dRows [ns])) := upd_same
    generalize upd (upd (upd H4 me (.dT [])) t (.tup (ns.map V.int))) me (.dT [(rowKey ns, .bl true)]) = H6 at l6 s6 hme6
    refine ⟨fun m σ H' => ∃ fv wv Fd L M y4 y5 y6 y7, m + M.length = 4084102 + L.length ∧ σ = [some (.ref a), some (.ref fo), some (.ref wa), some (.ref me), y4, y5, y6, y7] ∧ Same H H' ∧ H' fo = some (.lst fv) ∧ H' wa = some (.lst wv) ∧
        H' me = some (.dT (dRows M)) ∧ Nws H (hid H' [fo, wa]) fv Fd ∧ Nws H (hid H' [fo, wa]) wv L ∧ EndI ns M L Fd,
      ⟨4084102, [], [.ref b0], [], [ns], [ns], none, none, none, none, rfl, rfl, s6, l6 _ _ hfo4, l6 _ _ hwa4, hme6, .nil, .cons ⟨b0, rfl, ?_, hb0H⟩ .nil, ?_⟩, fun m σ H7 h => ?_⟩
    · unfold Lst
      rw [hid_out (by simp [nb0, nbw])]
      exact l6 _ _ hb04
    · refine ⟨List.nodup_cons.mpr ⟨List.not_mem_nil, List.nodup_nil⟩, fun x hx => ?_, List.mem_singleton.mpr rfl, fun r hr => .inl hr, List.nodup_nil, List.nodup_cons.mpr ⟨List.not_mem_nil, List.nodup_nil⟩, fun r hr => ⟨hr, List.not_mem_nil⟩, fun r hr => nomatch hr⟩
      rw [List.mem_singleton.mp hx]
      exact ⟨0, .zero _⟩
    · obtain ⟨fv, wv, Fd, L, M, y4, y5, y6, y7, em, rfl, s7, hfo7, hwa7, hme7, nf7, nw7, ei⟩ := h
      refine ⟨.ref wa, rfl, Nat.zero_le _, fun z hz => ?_⟩
      have b1 : Same H7 (upd H7 z (.lst [])) := same_new hz
      have hs := Same.lsts (hid_same H7 [fo, wa])
      refine ⟨rowsD L, rowsD [], dp_rows (SqL.of (b1 _ _ hwa7)) ((nw7.mono hs).mono (Same.lsts b1)).rows, .lst (SqL.of upd_same) .nil, shaped_rows _, shaped_rows _, _, rfl, ?_⟩
      rw [eqv_rows]
      have s8 : Same H (upd H7 z (.lst [])) := s7.trans b1
      have hfo8 := b1 _ _ hfo7
      have hwa8 := b1 _ _ hwa7
      have hme8 := b1 _ _ hme7
      have nf8 := nf7.mono (Same.lsts (hid_mono (xs := [fo, wa]) b1))
      have nw8 := nw7.mono (Same.lsts (hid_mono (xs := [fo, wa]) b1))
      generalize upd H7 z (.lst []) = H8 at s8 hfo8 hwa8 hme8 nf8 nw8
      by_cases ce : L = []
      · subst ce
        refine itN (by simp) ?_
        refine ⟨.ref fo, rfl, fo, fv, Fd, _, rfl, SqL.of hfo8, nf8.mono (Same.lsts (hid_same _ _)), fun v r h => h.row, fun ys p hp pr => ?_⟩
        refine q _ p ys Fd (s8.trans (same_new hp)) (s8.free hp) upd_same (Paired.mapP pr fun v r h => ?_) ei.all
        obtain ⟨b, e, hb, nb⟩ := h
        refine ⟨b, e, ?_, nb⟩
        have nbp : b ≠ p := ne_of_none hb hp
        unfold Lst
        rw [hid_out (by simp [nbp]), upd_ne nbp]
        exact hb
      · refine itP (by rw [decide_eq_false ce]; rfl) ?_
        refine ⟨fun σ' H' => ∃ m', m' < m ∧ ∃ fv wv Fd L M y4 y5 y6 y7, m' + M.length = 4084102 + L.length ∧ σ' = [some (.ref a), some (.ref fo), some (.ref wa), some (.ref me), y4, y5, y6, y7] ∧ Same H H' ∧ H' fo = some (.lst fv) ∧ H' wa = some (.lst wv) ∧
          H' me = some (.dT (dRows M)) ∧ Nws H (hid H' [fo, wa]) fv Fd ∧ Nws H (hid H' [fo, wa]) wv L ∧ EndI ns M L Fd, fun σ' H' h => h, ?_⟩
        obtain ⟨L0, r, rfl⟩ : ∃ L0 r, L = L0 ++ [r] := ⟨L.dropLast, L.getLast ce, (List.dropLast_concat_getLast ce).symm⟩
        obtain ⟨w0, v, rfl, nw0, b, rfl, hb, hbH⟩ := pd_snoc nw8
        have cM := count_le ok ei.nm ei.rm
        -- pop
        refine ⟨.ref wa, rfl, .inl ⟨rfl, _, SqL.of hwa8⟩, wa, _, .ref b, rfl, rfl, hwa8, by simp, ?_⟩
        rw [List.dropLast_concat]
        have ls9 : Same (hid H8 [fo, wa]) (hid (upd H8 wa (.lst w0)) [fo, wa]) := by rw [hid_upd (by simp)]; exact Same.refl _
        have s9 : Same H (upd H8 wa (.lst w0)) := same_upd2 s8 hwaH
        have hwa9 : (upd H8 wa (.lst w0)) wa = some (.lst w0) := upd_same
        have hfo9 : (upd H8 wa (.lst w0)) fo = some (.lst fv) := by rw [upd_ne nfw]; exact hfo8
        have hme9 : (upd H8 wa (.lst w0)) me = some (.dT (dRows M)) := by rw [upd_ne (ne_of hme8 hwa8 (by intro z; cases z))]; exact hme8
        have nf9 := nf8.mono (Same.lsts ls9)
        have nw9 := Nws.mono (Same.lsts ls9) nw0
        have hb9 : Lst (hid (upd H8 wa (.lst w0)) [fo, wa]) b r := ls9 _ _ hb
        generalize upd H8 wa (.lst w0) = H9 at s9 hwa9 hfo9 hme9 nf9 nw9 hb9
        have hb9' : Lst H9 b r := hid_same _ _ _ _ hb9
        obtain ⟨k0, rch⟩ := ei.rm r (ei.lm r (List.mem_append_right _ (List.mem_singleton.mpr rfl))).1
        have okr : Small r := rch.ok ok
        have ej := ei.pop
        -- evenings
        refine ⟨.ref b, rfl, b, r, rfl, hb9'.sq, okr.row12, fun HA p we sA hp hwe pe => ?_⟩
        have lsA := Same.lsts (hid_mono (xs := [fo, wa]) sA)
        have sHA := s9.trans sA
        have hfoA := sA _ _ hfo9
        have hwaA := sA _ _ hwa9
        have hmeA := sA _ _ hme9
        have nfA := nf9.mono lsA
        have nwA := nw9.mono lsA
        have hbA : Lst (hid HA [fo, wa]) b r := lsA _ _ hb9
        have npf : p ≠ fo := (ne_of_none hfo9 hp).symm
        have npw : p ≠ wa := (ne_of_none hwa9 hp).symm
        refine ⟨.ref p, rfl, Nat.zero_le _, fun z2 hz2 => ?_⟩
        have sB : Same HA (upd HA z2 (.lst [])) := same_new hz2
        refine ⟨prsD (evs r), prsD [], dp_prs (SqL.of (sB _ _ hwe)) (pe.mono (Same.tups sB)), dp_prs (SqL.of upd_same) .nil, shaped_prs _, shaped_prs _, _, rfl, ?_⟩
        rw [eqv_prs]
        have lsB := Same.lsts (hid_mono (xs := [fo, wa]) sB)
        have sHB := sHA.trans sB
        have hfoB := sB _ _ hfoA
        have hwaB := sB _ _ hwaA
        have hmeB := sB _ _ hmeA
        have nfB := nfA.mono lsB
        have nwB := nwA.mono lsB
        have hbB : Lst (hid (upd HA z2 (.lst [])) [fo, wa]) b r := lsB _ _ hbA
        have hweB := sB _ _ hwe
        have peB := pe.mono (Same.tups sB)
        generalize upd HA z2 (.lst []) = HB at sHB hfoB hwaB hmeB nfB nwB hbB hweB peB
        have lF : fv.length = Fd.length := pd_len nfB
        have cF : Fd.length ≤ 4084101 := count_le ok ei.nf fun x hx => ei.rm x (ei.fm x hx).1
        obtain ⟨FdC, eFd⟩ : ∃ z, z = (if evs r = [] then Fd ++ [r] else Fd) := ⟨_, rfl⟩
        rw [← eFd] at ej
        rw [List.length_append] at em
        have em2 : m + M.length = 4084103 + L0.length := by
          have e1 : [r].length = 1 := rfl
          omega
        by_cases cv : evs r = []
        case' pos =>
          refine itP (decide_eq_true cv) ?_
          refine ⟨.ref fo, rfl, .inl ⟨rfl, _, SqL.of hfoB⟩, .ref b, rfl, fo, fv, _, rfl, rfl, hfoB, lineB (by omega), ?_⟩
          have eF2 : FdC = Fd ++ [r] := by rw [eFd, if_pos cv]
          have hh : hid (upd HB fo (.lst (fv ++ [.ref b]))) [fo, wa] = hid HB [fo, wa] := hid_upd (by simp)
          have sC : Same H (upd HB fo (.lst (fv ++ [.ref b]))) := same_upd2 sHB hfoH
          have hfoC : (upd HB fo (.lst (fv ++ [.ref b]))) fo = some (.lst (fv ++ [.ref b])) := upd_same
          have hwaC : (upd HB fo (.lst (fv ++ [.ref b]))) wa = some (.lst w0) := by rw [upd_ne nfw.symm]; exact hwaB
          have hmeC : (upd HB fo (.lst (fv ++ [.ref b]))) me = some (.dT (dRows M)) := by rw [upd_ne (ne_of hmeB hfoB (by intro z; cases z))]; exact hmeB
          have nfC : Nws H (hid (upd HB fo (.lst (fv ++ [.ref b]))) [fo, wa]) (fv ++ [.ref b]) FdC := by
            rw [hh, eF2]
            exact pd_app nfB (.cons ⟨b, rfl, hbB, hbH⟩ .nil)
          have nwC : Nws H (hid (upd HB fo (.lst (fv ++ [.ref b]))) [fo, wa]) w0 L0 := by
            rw [hh]
            exact nwB
          have hbC : Lst (hid (upd HB fo (.lst (fv ++ [.ref b]))) [fo, wa]) b r := by
            rw [hh]
            exact hbB
          have hweC : (upd HB fo (.lst (fv ++ [.ref b]))) p = some (.lst we) := by rw [upd_ne npf]; exact hweB
          have peC := peB.mono (tups_lst (o := .lst (fv ++ [.ref b])) hfoB)
          generalize fv ++ [.ref b] = fvC at *
          generalize upd HB fo (.lst fvC) = HC at *
        case' neg =>
          refine itN (by rw [decide_eq_false cv]; decide) ?_
          have eF2 : FdC = Fd := by rw [eFd, if_neg cv]
          have sC := sHB
          have hfoC := hfoB
          have hwaC := hwaB
          have hmeC := hmeB
          have nfC : Nws H (hid HB [fo, wa]) fv FdC := by rw [eF2]; exact nfB
          have nwC := nwB
          have hbC := hbB
          have hweC := hweB
          have peC := peB
          generalize fv = fvC at *
          generalize HB = HC at *
        all_goals
          refine ⟨.ref p, rfl, p, rfl, ⟨_, SqL.of hweC⟩, for_list (K := K) (a := p) (xs := we)
            (fun j σ H' => ∃ wv L M y6 y7, σ = [some (.ref a), some (.ref fo), some (.ref wa), some (.ref me), some (.ref b), some (.ref p), y6, y7] ∧ Same H H' ∧ H' fo = some (.lst fvC) ∧ H' wa = some (.lst wv) ∧ H' me = some (.dT (dRows M)) ∧
              Nws H (hid H' [fo, wa]) fvC FdC ∧ Nws H (hid H' [fo, wa]) wv L ∧ Lst (hid H' [fo, wa]) b r ∧ H' p = some (.lst we) ∧ Prs H' we (evs r) ∧ EndJ ns r j M L FdC ∧ m + M.length = 4084103 + L.length)
            ⟨w0, L0, M, _, _, rfl, sC, hfoC, hwaC, hmeC, nfC, nwC, hbC, hweC, peC, ej, em2⟩ (fun j σ H' _ h => ?_) (fun j x σ HD hx h => ?_) (fun σ HD h => ?_)⟩
          · obtain ⟨_, _, _, _, _, _, _, _, _, _, _, _, _, hpp, _⟩ := h
            exact SqL.of hpp
          · obtain ⟨wv, L, M, y6, y7, rfl, sD, hfoD, hwaD, hmeD, nfD, nwD, hbD, hpD, peD, ejD, emD⟩ := h
            obtain ⟨pp, hpp, tt, rfl, htt⟩ := prs_at peD hx
            have hpe := List.mem_of_getElem? hpp
            obtain ⟨i1, j1, epp, hij, hj1, hgd⟩ := mem_evs.mp hpe
            have hbD' : Lst HD b r := hid_same _ _ _ _ hbD
            refine ⟨.ref b, rfl, .ref tt, rfl, b, tt, r, i1, j1, rfl, hbD'.sq, ?_, by omega, hj1, okr.row12, fun HE th sE hth hTh => ?_⟩
            · rw [epp] at htt
              exact SqT.of htt
            have eb : beh r i1 j1 = behP r pp := by rw [epp]; rfl
            rw [eb] at hTh
            have cM2 : M.length ≤ 4084101 := count_le ok ejD.nm ejD.rm
            have nthf : th ≠ fo := (ne_of_none hfoD hth).symm
            have nthw : th ≠ wa := (ne_of_none hwaD hth).symm
            have hthH : H th = none := sD.free hth
            refine ⟨.ref th, rfl, th, _, rfl, .inl ⟨hTh.sq, fun t3 ht3 => ?_⟩⟩
            have sF : Same HE (upd HE t3 (.tup ((behP r pp).map V.int))) := same_new ht3
            have ht3F : (upd HE t3 (.tup ((behP r pp).map V.int))) t3 = some (.tup ((rowKey (behP r pp)).map kV)) := by rw [rowKey_V]; exact upd_same
            have sDF : Same HD (upd HE t3 (.tup ((behP r pp).map V.int))) := sE.trans sF
            have hThF := hTh.mono sF
            generalize upd HE t3 (.tup ((behP r pp).map V.int)) = HF at sF ht3F sDF hThF
            have hmeF := sDF _ _ hmeD
            have lsF := Same.lsts (hid_mono (xs := [fo, wa]) sDF)
            refine ⟨.ref me, rfl, me, _, rfl, DGet.t (k := rowKey (behP r pp)) hmeF ht3F, _, rfl, ?_⟩
            rw [val_dRows]
            by_cases cN : behP r pp ∈ M
            · refine itN (by rw [decide_eq_true cN]; decide) ?_
              exact ⟨wv, L, M, _, _, rfl, sD.trans sDF, sDF _ _ hfoD, sDF _ _ hwaD, hmeF, nfD.mono lsF, nwD.mono lsF, lsF _ _ hbD, sDF _ _ hpD, peD.mono (Same.tups sDF), ejD.old hpp cN, emD⟩
            · refine itP (by rw [decide_eq_false cN]; rfl) ?_
              refine ⟨.ref me, rfl, .ref th, rfl, th, _, rfl, .inl ⟨hThF.sq, fun t4 ht4 => ?_⟩⟩
              have sG : Same HF (upd HF t4 (.tup ((behP r pp).map V.int))) := same_new ht4
              refine ⟨me, _, rfl, DPut.t (k := rowKey (behP r pp)) (sG _ _ hmeF) (by rw [rowKey_V]; exact upd_same) (lineB (by rw [dRows_length]; omega)), ?_⟩
              rw [put_dRows]
              have hmeG := sG _ _ hmeF
              have sHG := (sD.trans sDF).trans sG
              have sDG := sDF.trans sG
              have hThG := hThF.mono sG
              generalize upd HF t4 (.tup ((behP r pp).map V.int)) = HG at hmeG sHG sDG hThG
              have lI : Lsts HG (upd HG me (.dT (dRows (ins M (behP r pp))))) := lsts_dT hmeG
              have tI : TupS HG (upd HG me (.dT (dRows (ins M (behP r pp))))) := tups_dT hmeG
              have sI : Same H (upd HG me (.dT (dRows (ins M (behP r pp))))) := same_upd2 sHG hmeH
              have hmeI : (upd HG me (.dT (dRows (ins M (behP r pp))))) me = some (.dT (dRows (ins M (behP r pp)))) := upd_same
              have eM : ins M (behP r pp) = M ++ [behP r pp] := if_neg cN
              rw [eM] at hmeI lI tI sI ⊢
              generalize upd HG me (.dT (dRows (M ++ [behP r pp]))) = HI at lI tI sI hmeI
              have lDI : Lsts HD HI := (Same.lsts sDG).trans lI
              have hwaI := lDI _ _ hwaD
              have hfoI := lDI _ _ hfoD
              have hThI : Lst HI th (behP r pp) := lI _ _ hThG
              have lwv : wv.length = L.length := pd_len nwD
              have cL : L.length ≤ 4084101 := count_le ok ejD.nl fun x hx => ejD.rm x (ejD.lm x hx).1
              refine ⟨.ref wa, rfl, .inl ⟨rfl, _, SqL.of hwaI⟩, .ref th, rfl, wa, wv, _, rfl, rfl, hwaI, lineB (by omega), ?_⟩
              have hh2 : hid (upd HI wa (.lst (wv ++ [.ref th]))) [fo, wa] = hid HI [fo, wa] := hid_upd (by simp)
              have lsI := hid_lsts (xs := [fo, wa]) lDI
              refine ⟨wv ++ [.ref th], L ++ [behP r pp], M ++ [behP r pp], _, _, rfl, same_upd2 sI hwaH, by rw [upd_ne nfw]; exact hfoI, upd_same, by rw [upd_ne (ne_of hmeI hwaI (by intro z; cases z))]; exact hmeI, ?_, ?_, ?_, by rw [upd_ne npw]; exact lDI _ _ hpD, (peD.mono ((Same.tups sDG).trans tI)).mono (tups_lst hwaI), ejD.new hpp cN, ?_⟩
              · rw [hh2]
                exact nfD.mono lsI
              · rw [hh2]
                refine pd_app (nwD.mono lsI) (.cons ⟨th, rfl, ?_, hthH⟩ .nil)
                unfold Lst
                rw [hid_out (by simp [nthf, nthw])]
                exact hThI
              · rw [hh2]
                exact lsI _ _ hbD
              · rw [List.length_append, List.length_append]
                show m + (M.length + 1) = 4084103 + (L.length + 1)
                omega
          · obtain ⟨wv, L, M, y6, y7, rfl, sD, hfoD, hwaD, hmeD, nfD, nwD, hbD, hpD, peD, ejD, emD⟩ := h
            rw [pd_len peD] at ejD
            exact ⟨m - 1, by omega, fvC, wv, FdC, L, M, _, _, _, _, by omega, rfl, sD, hfoD, hwaD, hmeD, nfD, nwD, ejD.fin⟩
end
end EG

/-! _law_kinds: of which classes a refusal is; a call of what a slot holds. -/
namespace EG
open PySem PySem.Spec PyProof.Rows L2
section
variable {X : Cx} {k i : Nat} {x : Str} {p pos : Pos} {e : Expr} {es : List Expr} {t : TA}
/-- what a def that a slot may hold promises -/
def HeldX (P : Program) (w : World) (K : PySem.W.Frag) (mg : Str → Option Value) (base : Heap) (k : Nat) (f : Addr) (sp : Sp) : Prop :=
  ∃ (fd : FuncData) (ps : List Str), FnOk P w K mg base (L2.CX P w) k f fd ps sp ∧ PySem.W.keepIn K (.ref f) = true ∧ Binds K fd ps []
theorem Cal.held {P : Program} {w : World} {K : PySem.W.Frag} {mg : Str → Option Value} {base : Heap} {x : Str} {ps : List Str} {j k : Nat} {sp : Sp} {f : Addr} (c : Cal (L2.CX P w) P w K mg base x ps j sp) (g : mg x = some (.ref f)) (h : j ≤ k) : HeldX P w K mg base k f sp := by
  obtain ⟨f', fd, F, gf, kf, bf⟩ := c
  rw [g] at gf
  cases gf
  exact ⟨fd, ps, F.mono h, kf, bf⟩
def tCallAX (i : Nat) (S : Addr → Sp → Prop) (E : XK) (t : TA) : TE := fun σ H Q => ∃ f sp, σ[i]? = some (some (.ref f)) ∧ S f sp ∧ t σ H fun vs H1 => sp vs H1 Q E
theorem pe_callAX {E : XK} {S : Addr → Sp → Prop} (A : ∀ f sp, S f sp → HeldX X.prog X.w X.K X.mg X.base k f sp) (hr : Room k X.A) (hx : Passes (L2.CX X.prog X.w) X E) (hN : X.N[i]? = some x) (hv : Vis X.env.scope x) (ha : PA X (e :: es) t)
    (hdb : (x == ("__debug__" : Str)) = false := by decide) (hcd : (x == ("__classdict__" : Str)) = false := by decide)
    (he : starEach (e :: es) X.env = (false, eval e X.env) :: starEach es X.env := by rfl) (hpl : (backTo pos (starEach es X.env)).any (·.1) = false := by rfl) : PE X (.Call (.Name x p) (e :: es) [] pos) (tCallAX i S E t) := by
  refine ⟨fun pins s σ H Q I h => ?_⟩
  obtain ⟨f, sp, hs, hS, ht⟩ := h
  obtain ⟨fd, ps, F, hk, hb⟩ := A f sp hS
  refine (pe_callL (i := i) (f := f) (sp := sp) (dvs := []) (E := E) F hr hN hv hk hb .nil hx ha hdb hcd he hpl).run pins s σ H Q I ⟨hs, ?_⟩
  have e0 : (fun (vs : List V) (H1 : Hp) => sp (vs ++ []) H1 Q E) = fun vs H1 => sp vs H1 Q E := by
    funext vs H1
    rw [List.append_nil]
  show t σ H (fun vs H1 => sp (vs ++ []) H1 Q E)
  rw [e0]
  exact ht
end
/-- what is known of the refusals' classes -/
structure KdF (K : PySem.W.Frag) (CB CE CG : Addr) : Prop where
  eB : ExcC K CB
  eE : ExcC K CE
  gB : PySem.W.exmOne K (.ref CB) (.ref CG) = some true
  gE : PySem.W.exmOne K (.ref CE) (.ref CG) = some true
  bb : PySem.W.kitOne K (.ref CB) (.ref CB) = some true
  be : PySem.W.kitOne K (.ref CB) (.ref CE) = some false
  eb : PySem.W.kitOne K (.ref CE) (.ref CB) = some false
  ee : PySem.W.kitOne K (.ref CE) (.ref CE) = some true
  bv : PySem.W.kitOne K (.ref CB) (.type "ValueError") = some true
  ev : PySem.W.kitOne K (.ref CE) (.type "ValueError") = some true
/-- _law_kinds(lambda: ..): the answer at a refusal -/
def TKinds (CB CE : Addr) : (XK → Hp → VK → Prop) → Hp → VK → Prop := fun tl H Q => ∀ fo, H fo = none → ∀ Q',
  tl (fun cls d H' => d = none ∧ ((cls = .ref CB ∧ ∀ l, H' l = none → Q (.ref l) (upd H' l (.lst [.bl true, .bl false, .bl true]))) ∨ (cls = .ref CE ∧ ∀ l, H' l = none → Q (.ref l) (upd H' l (.lst [.bl false, .bl true, .bl true])))))
    (upd H fo (.lst [])) Q'
def TSK (CB CE : Addr) (a : Addr) (cls : Value) (d : Option Addr) : TS := fun D σ H => (∃ σ0 : L2.St, σ = σ0.set 2 (some (.ref a))) ∧ d = none ∧
  ((cls = .ref CB ∧ ∀ l, H l = none → σ.length = 3 → D.nx (σ.set 1 (some (.ref l))) (upd H l (.lst [.bl true, .bl false, .bl true]))) ∨ (cls = .ref CE ∧ ∀ l, H l = none → σ.length = 3 → D.nx (σ.set 1 (some (.ref l))) (upd H l (.lst [.bl false, .bl true, .bl true]))))
section
variable {X : Cx}
theorem kinds_gives {q : Str} {g CB CE CG : Addr} {cdg : Value} (hB : X.mg "BadRow" = some (.ref CB)) (hE : X.mg "BadEvening" = some (.ref CE)) (hG : X.mg "GlassError" = some (.ref CG)) (hV : X.mg "ValueError" = none) (hI : X.mg "isinstance" = none)
    (D : KdF X.K CB CE CG) : LamX.GivesTo X ["_law_ask", "_law_found", "error"] "_law_kinds" (defScope s_l_kinds) g cdg (defBody s_l_kinds) "_law_ask" q (TKinds CB CE) := by
  intro f c' s H Q tl act hc h
  have two : ∀ (σ0 : L2.St) (a : Addr), (σ0.set 2 (some (V.ref a))).length = 3 → (σ0.set 2 (some (V.ref a)))[2]? = some (some (V.ref a)) := fun σ0 a hl => by
    rw [List.length_set] at hl
    rw [List.getElem?_set_self (by omega)]
  refine ⟨_, pss_cons (ps_set (i := 1) sc_l_kinds.nd rfl (.inl rfl) (pe_lst pa_nil))
    (pss_cons (ps_try_as (i := 2) (X := (cxOf C8.CX0 X.prog X.w X.K X.mg X.base ["_law_ask", "_law_found", "error"] "_law_kinds" (defScope s_l_kinds) g cdg X.A X.stack s H C8.E0).nox) (c := .ref CG)
      (tb := fun W D σ H => ∃ Ech : XK, (∀ cls d σ' H', Ech cls d H' → W cls d σ' H') ∧ σ[0]? = some (some (.ref f)) ∧ H c' = some (LamX.CodeO c' q) ∧ tl Ech H (fun _ H' => D.nx σ H'))
      (ts := TSK CB CE)
      rfl rfl sc_l_kinds.nd rfl rfl ⟨rfl, by decide, .inl hG⟩ LamX.takes0 (fun W pn xe tk _ => ?_) (fun a oe cls d pn hz hf => ?_))
    (pss_one (ps_ret (pv 1)))), ?_⟩
  · refine ⟨fun pins s' σ H' D I h' => ?_⟩
    obtain ⟨Ech, hW, h1, h2, h3⟩ := h'
    exact PSs.run (pss_one (ps_expr (act W pn xe Ech _ _ tk hW))) pins s' σ H' D I ⟨h1, h2, h3⟩
  · refine ⟨fun pins s' σ H' D' I h' => ?_⟩
    obtain ⟨⟨σ0, rfl⟩, rfl, ⟨rfl, h2⟩ | ⟨rfl, h2⟩⟩ := h'
    · have hl : (σ0.set 2 (some (V.ref a))).length = 3 := I.len
      have e2 := two _ _ hl
      refine (pss_one (ps_set (i := 1) sc_l_kinds.nd rfl (.inl rfl) (pe_lst (pa_cons (pe_callB (X := ((cxOf C8.CX0 X.prog X.w X.K X.mg X.base ["_law_ask", "_law_found", "error"] "_law_kinds" (defScope s_l_kinds) g cdg X.A X.stack s H C8.E0).nox).suite a ((a, oe) :: pn)) (r := rIsE X.K CB a) (call_isE (X := (cxOf C8.CX0 X.prog X.w X.K X.mg X.base ["_law_ask", "_law_found", "error"] "_law_kinds" (defScope s_l_kinds) g cdg X.A X.stack s H C8.E0).nox) D.eB hz hf) (by rfl) hI PyProof.Rows.boot_isinstance (pa_cons (pv 2) (pa_cons (pe_glob (v := .ref CB) (by rfl) hB rfl) pa_nil)))
        (pa_cons (pe_callB (X := ((cxOf C8.CX0 X.prog X.w X.K X.mg X.base ["_law_ask", "_law_found", "error"] "_law_kinds" (defScope s_l_kinds) g cdg X.A X.stack s H C8.E0).nox).suite a ((a, oe) :: pn)) (r := rIsE X.K CB a) (call_isE (X := (cxOf C8.CX0 X.prog X.w X.K X.mg X.base ["_law_ask", "_law_found", "error"] "_law_kinds" (defScope s_l_kinds) g cdg X.A X.stack s H C8.E0).nox) D.eB hz hf) (by rfl) hI PyProof.Rows.boot_isinstance (pa_cons (pv 2) (pa_cons (pe_glob (v := .ref CE) (by rfl) hE rfl) pa_nil)))
        (pa_cons (pe_callB (X := ((cxOf C8.CX0 X.prog X.w X.K X.mg X.base ["_law_ask", "_law_found", "error"] "_law_kinds" (defScope s_l_kinds) g cdg X.A X.stack s H C8.E0).nox).suite a ((a, oe) :: pn)) (r := rIsE X.K CB a) (call_isE (X := (cxOf C8.CX0 X.prog X.w X.K X.mg X.base ["_law_ask", "_law_found", "error"] "_law_kinds" (defScope s_l_kinds) g cdg X.A X.stack s H C8.E0).nox) D.eB hz hf) (by rfl) hI PyProof.Rows.boot_isinstance (pa_cons (pv 2) (pa_cons (pe_bltn (v := .ty "ValueError") (by rfl) hV (by rfl) rfl) pa_nil))) pa_nil)))))).run pins s' _ H' D' I ?_
      exact ⟨_, e2, _, _, _, rfl, fun u hu => hu, D.bb, _, e2, _, _, _, rfl, fun u hu => hu, D.be, _, e2, _, _, _, rfl, fun u hu => hu, D.bv, (by show 3 ≤ sizeLine; decide), fun l hl2 => h2 l hl2 hl⟩
    · have hl : (σ0.set 2 (some (V.ref a))).length = 3 := I.len
      have e2 := two _ _ hl
      refine (pss_one (ps_set (i := 1) sc_l_kinds.nd rfl (.inl rfl) (pe_lst (pa_cons (pe_callB (X := ((cxOf C8.CX0 X.prog X.w X.K X.mg X.base ["_law_ask", "_law_found", "error"] "_law_kinds" (defScope s_l_kinds) g cdg X.A X.stack s H C8.E0).nox).suite a ((a, oe) :: pn)) (r := rIsE X.K CE a) (call_isE (X := (cxOf C8.CX0 X.prog X.w X.K X.mg X.base ["_law_ask", "_law_found", "error"] "_law_kinds" (defScope s_l_kinds) g cdg X.A X.stack s H C8.E0).nox) D.eE hz hf) (by rfl) hI PyProof.Rows.boot_isinstance (pa_cons (pv 2) (pa_cons (pe_glob (v := .ref CB) (by rfl) hB rfl) pa_nil)))
        (pa_cons (pe_callB (X := ((cxOf C8.CX0 X.prog X.w X.K X.mg X.base ["_law_ask", "_law_found", "error"] "_law_kinds" (defScope s_l_kinds) g cdg X.A X.stack s H C8.E0).nox).suite a ((a, oe) :: pn)) (r := rIsE X.K CE a) (call_isE (X := (cxOf C8.CX0 X.prog X.w X.K X.mg X.base ["_law_ask", "_law_found", "error"] "_law_kinds" (defScope s_l_kinds) g cdg X.A X.stack s H C8.E0).nox) D.eE hz hf) (by rfl) hI PyProof.Rows.boot_isinstance (pa_cons (pv 2) (pa_cons (pe_glob (v := .ref CE) (by rfl) hE rfl) pa_nil)))
        (pa_cons (pe_callB (X := ((cxOf C8.CX0 X.prog X.w X.K X.mg X.base ["_law_ask", "_law_found", "error"] "_law_kinds" (defScope s_l_kinds) g cdg X.A X.stack s H C8.E0).nox).suite a ((a, oe) :: pn)) (r := rIsE X.K CE a) (call_isE (X := (cxOf C8.CX0 X.prog X.w X.K X.mg X.base ["_law_ask", "_law_found", "error"] "_law_kinds" (defScope s_l_kinds) g cdg X.A X.stack s H C8.E0).nox) D.eE hz hf) (by rfl) hI PyProof.Rows.boot_isinstance (pa_cons (pv 2) (pa_cons (pe_bltn (v := .ty "ValueError") (by rfl) hV (by rfl) rfl) pa_nil))) pa_nil)))))).run pins s' _ H' D' I ?_
      exact ⟨_, e2, _, _, _, rfl, fun u hu => hu, D.eb, _, e2, _, _, _, rfl, fun u hu => hu, D.ee, _, e2, _, _, _, rfl, fun u hu => hu, D.ev, (by show 3 ≤ sizeLine; decide), fun l hl2 => h2 l hl2 hl⟩
  · refine ⟨Nat.zero_le _, fun fo hfo => ?_⟩
    have nfc : c' ≠ fo := ne_of_none hc hfo
    refine ⟨_, fun cls d σ' H' hh => ?_, rfl, by rw [upd_ne nfc]; exact hc, h fo hfo _⟩
    obtain ⟨rfl, ⟨rfl, h2⟩ | ⟨rfl, h2⟩⟩ := hh
    · refine ⟨true, D.gB, fun _ a _ => ⟨⟨σ', rfl⟩, rfl, .inl ⟨rfl, fun l hl h3 => ?_⟩⟩, fun z => nomatch z⟩
      refine ⟨.ref l, ?_, h2 l hl⟩
      rw [List.length_set] at h3
      rw [List.getElem?_set_ne (by decide), List.getElem?_set_self (by rw [List.length_set]; omega)]
    · refine ⟨true, D.gE, fun _ a _ => ⟨⟨σ', rfl⟩, rfl, .inr ⟨rfl, fun l hl h3 => ?_⟩⟩, fun z => nomatch z⟩
      refine ⟨.ref l, ?_, h2 l hl⟩
      rw [List.length_set] at h3
      rw [List.getElem?_set_ne (by decide), List.getElem?_set_self (by rw [List.length_set]; omega)]
end
end EG

/-! What is no number, no row, no pair: kept. -/
namespace EG
open PySem L2
/-- is it a number, whatever else comes or goes -/
def WhL (K : PySem.W.Frag) (H : Hp) (x : V) (b : Bool) : Prop := ∀ H' : Hp, (∀ c o, x = .ref c → H c = some o → (∀ ps, o ≠ .tbl ps) → H' c = some o) → Whole K H' x b
theorem WhL.wh {K : PySem.W.Frag} {H : Hp} {x : V} {b : Bool} (h : WhL K H x b) : Wh K H x b := fun H' s => h H' fun c o _ e n => s c o e n
theorem WhL.at {K : PySem.W.Frag} {H H1 : Hp} {x : V} {b : Bool} (h : WhL K H x b) (s : ∀ c o, x = .ref c → H c = some o → (∀ ps, o ≠ .tbl ps) → H1 c = some o) : WhL K H1 x b := fun H' s' => h H' fun c o e z n => s' c o e (s c o e z n) n
theorem wh_not {K : PySem.W.Frag} {H : Hp} {x : V} {t : Value} (h : ∀ H' : Hp, (∀ c o, x = .ref c → H c = some o → (∀ ps, o ≠ .tbl ps) → H' c = some o) → TyX K H' x t) (k : PySem.W.kitOne K t (.type "int") = some false) : WhL K H x false := fun H' s => ⟨t, false, false, h H' s, k, fun z => (nomatch z), rfl⟩
theorem wh_non {K : PySem.W.Frag} {H : Hp} : WhL K H .non false := wh_not (fun _ _ => .base .non) (kit_ty (by decide +kernel))
theorem wh_str {K : PySem.W.Frag} {H : Hp} (z : Str) : WhL K H (.str z) false := wh_not (fun _ _ => .base (.str z)) (kit_ty (by decide +kernel))
theorem wh_bl {K : PySem.W.Frag} {H : Hp} (b : Bool) : WhL K H (.bl b) false := fun H' s => ⟨_, true, true, .base (.bl b), kit_ty (by decide +kernel), fun _ => kit_ty (by decide +kernel), rfl⟩
theorem wh_lst {K : PySem.W.Frag} {H : Hp} {a : Addr} {xs : List V} (h : H a = some (.lst xs)) : WhL K H (.ref a) false := wh_not (fun _ s => .base (.lst (s _ _ rfl h (fun _ z => nomatch z)))) (kit_ty (by decide +kernel))
theorem wh_tup {K : PySem.W.Frag} {H : Hp} {a : Addr} {xs : List V} (h : H a = some (.tup xs)) : WhL K H (.ref a) false := wh_not (fun _ s => .base (.tup (s _ _ rfl h (fun _ z => nomatch z)))) (kit_ty (by decide +kernel))
theorem wh_dT {K : PySem.W.Frag} {H : Hp} {a : Addr} {xs : List (List Key × V)} (h : H a = some (.dT xs)) : WhL K H (.ref a) false := wh_not (fun _ s => .base (.dT (s _ _ rfl h (fun _ z => nomatch z)))) (kit_ty (by decide +kernel))
/-- no number, or one below 0 -/
def Odd (K : PySem.W.Frag) (H : Hp) (x : V) : Prop := WhL K H x false ∨ ∃ n : Int, x = .int n ∧ n < 0
theorem Odd.at {K : PySem.W.Frag} {H H1 : Hp} {x : V} (h : Odd K H x) (s : ∀ c o, x = .ref c → H c = some o → (∀ ps, o ≠ .tbl ps) → H1 c = some o) : Odd K H1 x := by
  rcases h with h | h
  · exact .inl (h.at s)
  · exact .inr h
theorem Odd.item {K : PySem.W.Frag} {H : Hp} {x : V} {g : Int} (h : Odd K H x) : ItemOk K H g x false := by
  rcases h with h | ⟨n, e, h⟩
  · exact .inl ⟨rfl, h.wh⟩
  · refine .inr ⟨n, e, ?_⟩
    have : ¬ (0 ≤ n ∧ n ≤ g) := by omega
    rw [decide_eq_false this]
theorem NotTy.of {K : PySem.W.Frag} {H : Hp} {v : V} {T : String} {t : Value} (h : ∀ H', LamX.ExtN H H' → TyX K H' v t) (k : PySem.W.kitOne K t (.type T) = some false) : NotTy K H v T := ⟨t, h, k⟩
theorem RowBad.ext {K : PySem.W.Frag} {H H1 : Hp} {m g : Int} {v : V} (s : LamX.ExtN H H1) (h : RowBad K H m g v) : RowBad K H1 m g v := by
  rcases h with h | ⟨a, xs, e, hx, hl, h | ⟨h1, h2, bs, hp, hb⟩⟩
  · exact .inl (h.ext s)
  · exact .inr ⟨a, xs, e, s _ _ hx (fun _ z => nomatch z), hl, .inl h⟩
  · exact .inr ⟨a, xs, e, s _ _ hx (fun _ z => nomatch z), hl, .inr ⟨h1, h2, bs, Paired.mapP hp fun _ _ q => q.ext s, hb⟩⟩
theorem RowBad.mono {K : PySem.W.Frag} {H H1 : Hp} {m g : Int} {v : V} (s : Same H H1) (h : RowBad K H m g v) : RowBad K H1 m g v := h.ext (.of s)
theorem PairBad.ext {K : PySem.W.Frag} {H H1 : Hp} {ns : List Int} {v : V} (s : LamX.ExtN H H1) (h : PairBad K H ns v) : PairBad K H1 ns v := by
  rcases h with h | ⟨e, xs, ev, he, h | ⟨h2, bs, hp, hb⟩ | h⟩
  · exact .inl (h.ext s)
  · exact .inr ⟨e, xs, ev, s _ _ he (fun _ z => nomatch z), .inl h⟩
  · exact .inr ⟨e, xs, ev, s _ _ he (fun _ z => nomatch z), .inr (.inl ⟨h2, bs, Paired.mapP hp fun _ _ q => q.ext s, hb⟩)⟩
  · exact .inr ⟨e, xs, ev, s _ _ he (fun _ z => nomatch z), .inr (.inr h)⟩
theorem PairBad.mono {K : PySem.W.Frag} {H H1 : Hp} {ns : List Int} {v : V} (s : Same H H1) (h : PairBad K H ns v) : PairBad K H1 ns v := h.ext (.of s)
theorem bad_len {K : PySem.W.Frag} {H : Hp} {a : Addr} {xs : List V} {m g : Int} (h : H a = some (.lst xs)) (l : xs.length ≤ 900) (n : ¬ (1 ≤ (xs.length : Int) ∧ (xs.length : Int) ≤ m)) : RowBad K H m g (.ref a) := .inr ⟨a, xs, rfl, h, l, .inl n⟩
end EG

/-! _law_kinds(lambda: ..). -/
namespace EG
open PySem PySem.Spec PyProof.Rows L2
section
variable {X : Cx}
theorem pe_kinds {T : List (Addr × Str)} {g CB CE CG c P : Addr} {fd : FuncData} {k : Nat} {params : Arguments} {body : Expr} {scope : Scope} {t : XK → TE} {p lpos pos : Pos} (F : Fun X.K "_law_kinds" "_law_kinds" s_l_kinds g fd) (gk : X.mg "_law_kinds" = some (.ref g))
    (kk : PySem.W.keepIn X.K (.ref g) = true) (bk : Binds X.K fd ["_law_ask"] []) (hB : X.mg "BadRow" = some (.ref CB)) (hE : X.mg "BadEvening" = some (.ref CE)) (hG : X.mg "GlassError" = some (.ref CG)) (hV : X.mg "ValueError" = none) (hI : X.mg "isinstance" = none)
    (D : KdF X.K CB CE CG) (hg : Gl X "_law_kinds") (TB : LamX.TabB X.base X.mg c P) (hcode : X.env.code = .ref c) (hmT : (P, X.env.qual ++ "<lambda>") ∈ T) (hu : ∀ p ∈ T, p.1 = P → p.2 = X.env.qual ++ "<lambda>") (hr : Room (k + 2) X.A)
    (L : LamX.LamS X.env.scope scope) (hdef : defaultsOf params X.env = ([], [])) (hbind : ∀ (q : Str) (cl : List (Str × Addr)) (pm cv ctv : Value), bindArgs (PySem.W.kla_fn "<lambda>" q params body scope cl pm cv ctv) ⟨[], []⟩ = pure [])
    (hbody : ∀ (A : Around) (outer : List Env) (s : Shared) (H : Hp) (E : XK) (f c' : Addr), Room k (A.deeper (LamX.lamEnv X scope s.heap.objs.size f c')) → PE (LamX.lamCx X A outer s H E scope f c') body (t E)) :
    PE X (.Call (.Name "_law_kinds" p) [.Lambda params body scope lpos] [] pos) (LamX.tLam T (TKinds CB CE) t) := by
  obtain ⟨oc, od, kV, doc, pm, an, cdv, ct, osl, rfl, lk, hcd⟩ := F.ex
  exact LamX.pe_lamcall hg gk kk lk hcd bk sc_l_kinds rfl (.inl rfl) (kinds_gives hB hE hG hV hI D) TB hcode hmT hu hr L hdef hbind hbody
end
/-- a refusal asked for, compared with what is due: the call refuses by C -/
def tKN (T : List (Addr × Str)) (t : XK → TE) (C : Addr) : TT := fun σ H N => LamX.Tabs T H ∧ (∀ H2, LamX.ExtN H H2 → ∀ (E : XK) (Q' : VK), (∀ H3, Same H2 H3 → E (.ref C) none H3) → t E σ H2 Q') ∧ ∀ H5, LamX.ExtN H H5 → LamX.Tabs T H5 → N false H5
def tKE (T : List (Addr × Str)) (t : XK → TE) (C : Addr) : TE := fun σ H Q => LamX.Tabs T H ∧ (∀ H2, LamX.ExtN H H2 → ∀ (E : XK) (Q' : VK), (∀ H3, Same H2 H3 → E (.ref C) none H3) → t E σ H2 Q') ∧ ∀ H5, LamX.ExtN H H5 → LamX.Tabs T H5 → Q (.bl true) H5
theorem kinds_go {T : List (Addr × Str)} {CB CE C : Addr} {b1 b2 : Bool} (hC : (C = CB ∧ b1 = true ∧ b2 = false) ∨ (C = CE ∧ b1 = false ∧ b2 = true)) {t : XK → TE} {σ : L2.St} {H : Hp} {Q : VK} (hT : LamX.Tabs T H)
    (ht : ∀ H2, LamX.ExtN H H2 → ∀ (E : XK) (Q' : VK), (∀ H3, Same H2 H3 → E (.ref C) none H3) → t E σ H2 Q') (q : ∀ H4 l, LamX.ExtN H H4 → LamX.Tabs T H4 → H4 l = some (.lst [.bl b1, .bl b2, .bl true]) → Q (.ref l) H4) : LamX.tLam T (TKinds CB CE) t σ H Q := by
  refine ⟨hT, fun H1 e1 t1 => fun fo hfo Q' => ?_⟩
  have s1 := same_new (o := .lst []) hfo
  refine ht _ (e1.trans (.of s1)) _ _ fun H3 s3 => ⟨rfl, ?_⟩
  have go : ∀ l, H3 l = none → Q (.ref l) (upd H3 l (.lst [.bl b1, .bl b2, .bl true])) := fun l hl => by
    have s4 := same_new (o := .lst [.bl b1, .bl b2, .bl true]) hl
    exact q _ l (e1.trans (.of ((s1.trans s3).trans s4))) (t1.ext ((s1.trans s3).trans s4)) upd_same
  rcases hC with ⟨rfl, rfl, rfl⟩ | ⟨rfl, rfl, rfl⟩
  · exact .inl ⟨rfl, go⟩
  · exact .inr ⟨rfl, go⟩
theorem dp_bl3 {K : PySem.W.Frag} {H : Hp} {l : Addr} {b1 b2 b3 : Bool} (h : H l = some (.lst [.bl b1, .bl b2, .bl b3])) : Dp K H (.ref l) (.list [.bool b1, .bool b2, .bool b3]) := .lst (SqL.of h) (.cons (.bl _) (.cons (.bl _) (.cons (.bl _) .nil)))
theorem bl3_eq (b1 b2 b3 : Bool) : PyData.eqv (.list [.bool b1, .bool b2, .bool b3]) (.list [.bool b1, .bool b2, .bool b3]) = true := by simp [PyData.eqv, PyData.eqvAll]
section
variable {X : Cx}
theorem pt_kinds {T : List (Addr × Str)} {CB CE C : Addr} {b1 b2 : Bool} {t : XK → TE} {ek el : Expr} {pos : Pos} (hC : (C = CB ∧ b1 = true ∧ b2 = false) ∨ (C = CE ∧ b1 = false ∧ b2 = true)) (hu : X.A.units + 64 < cLine) (hk : PE X ek (LamX.tLam T (TKinds CB CE) t))
    (hl : PE X el (tLst (tCons (tC (.bl b1)) (tCons (tC (.bl b2)) (tCons (tC (.bl true)) tNil))))) (hm : behindInMarks .NotEq el = false) : PT X (.Compare ek [.NotEq] [el] pos) (tKN T t C) := by
  refine ⟨fun pins s σ H N I h => (pt_cmpR (r := rNeD X.K) (op_neD hu) hk hl hm).run pins s σ H N I ?_⟩
  obtain ⟨hT, ht, q⟩ := h
  refine kinds_go hC hT ht fun H4 l e4 t4 hl4 => ⟨(by show 3 ≤ sizeLine; decide), fun p hp => ?_⟩
  have s5 := same_new (o := .lst [.bl b1, .bl b2, .bl true]) hp
  refine ⟨_, _, dp_bl3 (s5 _ _ hl4), dp_bl3 upd_same, rfl, rfl, false, ?_, q _ (e4.trans (.of s5)) (t4.ext s5)⟩
  rw [bl3_eq]
  rfl
theorem pe_kindsE {T : List (Addr × Str)} {CB CE C : Addr} {b1 b2 : Bool} {t : XK → TE} {ek el : Expr} {pos : Pos} (hC : (C = CB ∧ b1 = true ∧ b2 = false) ∨ (C = CE ∧ b1 = false ∧ b2 = true)) (hu : X.A.units + 64 < cLine) (hk : PE X ek (LamX.tLam T (TKinds CB CE) t))
    (hl : PE X el (tLst (tCons (tC (.bl b1)) (tCons (tC (.bl b2)) (tCons (tC (.bl true)) tNil))))) (hm : behindInMarks .Eq el = false) : PE X (.Compare ek [.Eq] [el] pos) (tKE T t C) := by
  refine ⟨fun pins s σ H Q I h => (pe_cmpR (r := rEqD X.K) (op_eqD hu) hk hl hm).run pins s σ H Q I ?_⟩
  obtain ⟨hT, ht, q⟩ := h
  refine kinds_go hC hT ht fun H4 l e4 t4 hl4 => ⟨(by show 3 ≤ sizeLine; decide), fun p hp => ?_⟩
  have s5 := same_new (o := .lst [.bl b1, .bl b2, .bl true]) hp
  refine ⟨_, _, dp_bl3 (s5 _ _ hl4), dp_bl3 upd_same, rfl, rfl, ?_⟩
  rw [bl3_eq]
  exact q _ (e4.trans (.of s5)) (t4.ext s5)
end
abbrev lamQ (x : Str) : Str := (x ++ ".<locals>.") ++ "<lambda>"
def S2 (K : PySem.W.Frag) (CB CE fv ff : Addr) : Addr → Sp → Prop := fun f sp => (f = fv ∧ sp = sp_evenedX K CB CE) ∨ (f = ff ∧ sp = sp_fallX K CB CE)
theorem extN_upd {H H1 : Hp} {L : Addr} {o : HO} (e : LamX.ExtN H H1) (n : H L = none) : LamX.ExtN H (upd H1 L o) := fun b u h nt => by
  rw [upd_ne (ne_of_none h n)]
  exact e b u h nt
/-- a list is changed: the tables stay -/
theorem tabs_upd {T : List (Addr × Str)} {H : Hp} {L : Addr} {xs : List V} {o : HO} (t : LamX.Tabs T H) (h : H L = some (.lst xs)) : LamX.Tabs T (upd H L o) := fun p hp => by
  obtain ⟨ps, h1, h2, h3⟩ := t p hp
  refine ⟨ps, by rw [upd_ne (ne_of h1 h (by intro z; cases z))]; exact h1, h2, fun pos cv hc => ?_⟩
  obtain ⟨c, e1, e2⟩ := h3 pos cv hc
  exact ⟨c, e1, by rw [upd_ne (ne_of e2 h (by intro z; unfold LamX.CodeO at z; cases z))]; exact e2⟩
/-- a def whose code object is known -/
theorem ok_code {P : Program} {w : World} {K : PySem.W.Frag} {mg : Str → Option Value} {base : Heap} {x qual : Str} {st : Stmt} {f c : Addr} {fd : FuncData} {N ps : List Str} {k : Nat} {sp : Sp} (F : Fun K x qual st f fd) (hc : fd.code = .ref c) (S : FnScope N ps (defScope st)) (len : ∀ vs H Q E, sp vs H Q E → vs.length = ps.length)
    (go : ∀ (A : Around) (outer : List Env) (s : Shared) (H : Hp) (vs : List V) (Q : VK) (E : XK), Room k (A.deeper (envOfC qual (defScope st) s.heap.objs.size f (.ref c))) → sp vs H Q E →
      ∃ t, PSs (cxOf CX0 P w K mg base N qual (defScope st) f (.ref c) A outer s H E).nox (defBody st) t ∧ t { nx := fun _ H' => Q .non H', rt := Q } (start N vs) H) : FnOk P w K mg base CX0 (k + 1) f fd ps sp := by
  obtain ⟨_, _, _, _, _, _, cv, _, _, ef, l, h⟩ := F.ex
  subst ef
  have e : cv = .ref c := hc
  subst e
  refine fn_of l h S len fun A o s H vs Q E hr hp => ?_
  have ⟨t, z, q⟩ := go A o s H vs Q E hr hp
  exact ⟨t, z.nox, q⟩
end EG

/-! Rows made three times as much and raised, or turned about from twenty: the same evenings. -/
namespace EG
open PySem L2
structure Aff (f : Int → Int) : Prop where
  inj : ∀ x y, f x = f y → x = y
  half : ∀ x y, (x + y) % 2 = 0 → (f x + f y) / 2 = f ((x + y) / 2)
  par : ∀ x y, (f x + f y) % 2 = 0 ↔ (x + y) % 2 = 0
theorem aff3 (m : Int) : Aff fun x => 3 * x + m := ⟨fun x y h => by have h : 3 * x + m = 3 * y + m := h; omega, fun x y h => by show (3 * x + m + (3 * y + m)) / 2 = 3 * ((x + y) / 2) + m; omega, fun x y => by show (3 * x + m + (3 * y + m)) % 2 = 0 ↔ _; omega⟩
theorem aff20 : Aff fun x => 20 - x := ⟨fun x y h => by have h : 20 - x = 20 - y := h; omega, fun x y h => by show (20 - x + (20 - y)) / 2 = 20 - (x + y) / 2; omega, fun x y => by show (20 - x + (20 - y)) % 2 = 0 ↔ _; omega⟩
section
variable {f : Int → Int}
theorem map_at {r : Rw} {i : Nat} (h : i < r.length) : (r.map f).getD i 0 = f (r.getD i 0) := by
  rw [List.getD_eq_getElem?_getD, map_getD h]
  rfl
theorem Aff.good (a : Aff f) {r : Rw} {i j : Nat} (hi : i < r.length) (hj : j < r.length) : goodP (r.map f) i j = goodP r i j := by
  rw [Bool.eq_iff_iff, goodP_iff, goodP_iff, map_at hi, map_at hj, a.par]
  constructor
  · rintro ⟨h1, h2⟩
    exact ⟨fun z => h1 (by rw [z]), h2⟩
  · rintro ⟨h1, h2⟩
    exact ⟨fun z => h1 (a.inj _ _ z), h2⟩
theorem Aff.evs (a : Aff f) (r : Rw) : evs (r.map f) = evs r := by
  unfold EG.evs evN
  rw [List.length_map, List.flatMap_def, List.flatMap_def]
  congr 1
  refine List.map_congr_left fun i hi => ?_
  have hi := List.mem_range.mp hi
  unfold evI
  congr 1
  refine List.filter_congr fun j hj => ?_
  have hj := List.mem_range'_1.mp hj
  exact a.good hi (by omega)
theorem Aff.beh (a : Aff f) {r : Rw} {p : Pr} (hp : p ∈ EG.evs r) : behP (r.map f) p = (behP r p).map f := by
  obtain ⟨i, j, rfl, hij, hj, hg⟩ := mem_evs.mp hp
  obtain ⟨h1, h2⟩ := goodP_iff.mp hg
  show EG.beh (r.map f) i j = (EG.beh r i j).map f
  apply List.ext_getElem?
  intro k
  by_cases hk : k < r.length
  · rw [beh_get _ _ _ _ (by rw [List.length_map]; exact hk), List.getElem?_map, beh_get _ _ _ _ hk]
    have hh : EG.half (r.map f) i j = f (EG.half r i j) := by
      unfold EG.half
      rw [map_at (by omega), map_at hj, a.half _ _ h2]
    rw [hh, map_at hk]
    by_cases c : k = i ∨ k = j
    · rw [if_pos c, if_pos c]; rfl
    · rw [if_neg c, if_neg c]; rfl
  · rw [List.getElem?_eq_none (by rw [beh_length, List.length_map]; omega), List.getElem?_eq_none (by rw [List.length_map, beh_length]; omega)]
theorem Aff.rch (a : Aff f) {r x : Rw} {n : Nat} (h : Rch r n x) : Rch (r.map f) n (x.map f) := by
  induction h with
  | zero => exact .zero _
  | step h hp ih =>
    rw [← a.beh hp]
    exact .step ih (by rw [a.evs]; exact hp)
theorem Aff.rch_back (a : Aff f) {r y : Rw} {n : Nat} (h : Rch (r.map f) n y) : ∃ x, y = x.map f ∧ Rch r n x := by
  generalize e : r.map f = r2 at h
  induction h with
  | zero => exact ⟨r, e.symm, .zero _⟩
  | step h hp ih =>
    obtain ⟨x, rfl, hx⟩ := ih
    rw [a.evs] at hp
    exact ⟨_, a.beh hp, .step hx hp⟩
theorem Aff.bd (a : Aff f) {r : Rw} {lo hi : Nat} (h : Bd r lo hi) : Bd (r.map f) lo hi := by
  obtain ⟨⟨x, hx, ex⟩, ⟨y, hy, ey⟩, q⟩ := h
  refine ⟨⟨x.map f, a.rch hx, by rw [a.evs]; exact ex⟩, ⟨y.map f, a.rch hy, by rw [a.evs]; exact ey⟩, fun k z hk ez => ?_⟩
  obtain ⟨z0, rfl, hz⟩ := a.rch_back hk
  rw [a.evs] at ez
  exact q k z0 hz ez
theorem Bd.uniq {r : Rw} {a b c d : Nat} (h : Bd r a b) (k : Bd r c d) : a = c ∧ b = d := by
  obtain ⟨⟨x, hx, ex⟩, ⟨y, hy, ey⟩, q⟩ := h
  obtain ⟨⟨x2, hx2, ex2⟩, ⟨y2, hy2, ey2⟩, q2⟩ := k
  have h1 := q _ _ hx2 ex2
  have h2 := q _ _ hy2 ey2
  have h3 := q2 _ _ hx ex
  have h4 := q2 _ _ hy ey
  omega
theorem Aff.mapinj (a : Aff f) : ∀ {x y : Rw}, x.map f = y.map f → x = y
  | [], [], _ => rfl
  | [], _ :: _, h => by simp at h
  | _ :: _, [], h => by simp at h
  | u :: x, v :: y, h => by
    rw [List.map_cons, List.map_cons] at h
    injection h with h1 h2
    rw [a.inj _ _ h1, a.mapinj h2]
theorem Aff.stl (a : Aff f) {r : Rw} {F G : List Rw} (hF : Stl r F) (hG : Stl (r.map f) G) : G.Perm (F.map (List.map f)) := by
  refine perm_of_mem hG.1 ?_ fun x => ?_
  · exact List.Pairwise.map _ (fun x y h e => h (a.mapinj e)) hF.1
  · rw [hG.2 x, List.mem_map]
    constructor
    · rintro ⟨k, hk, ex⟩
      obtain ⟨y, rfl, hy⟩ := a.rch_back hk
      rw [a.evs] at ex
      exact ⟨y, (hF.2 y).mpr ⟨k, hy, ex⟩, rfl⟩
    · rintro ⟨y, hy, rfl⟩
      obtain ⟨k, hk, ey⟩ := (hF.2 y).mp hy
      exact ⟨k, a.rch hk, by rw [a.evs]; exact ey⟩
theorem Aff.alike (a : Aff f) (r : Rw) : alikeB (r.map f) = alikeB r := by
  have e : dcount (r.map f) = dcount r := by
    unfold dcount
    have e1 : ∀ i, i < r.length → (r.map f).getD i 0 = f (r.getD i 0) := fun i hi => map_at hi
    have e2 : ∀ n, n ≤ r.length → PyProof.Rows.firstMet (fun i => (r.map f).getD i 0) n = PyProof.Rows.firstMet (fun i => f (r.getD i 0)) n := by
      intro n
      induction n with
      | zero => intro _; rfl
      | succ n ih =>
        intro hn
        rw [PyProof.Rows.firstMet_succ, PyProof.Rows.firstMet_succ, ih (by omega), e1 n (by omega)]
    rw [List.length_map, e2 _ (Nat.le_refl _), firstMet_map (f := f) (val := fun i => r.getD i 0) (fun i j _ _ h => a.inj _ _ h) r.length (Nat.le_refl _), List.length_map]
  unfold alikeB
  rw [e]
theorem Aff.rbeh (a : Aff f) (r : Rw) (ps : List Pr) : rbeh (r.map f) ps = (rbeh r ps).map (List.map f) := by
  have go : ∀ (ps : List Pr) (o : Option Rw), ps.foldl (fun o p => o.bind (stepE · p)) (o.map (List.map f)) = (ps.foldl (fun o p => o.bind (stepE · p)) o).map (List.map f) := by
    intro ps
    induction ps with
    | nil => intro o; rfl
    | cons p ps ih =>
      intro o
      rw [List.foldl_cons, List.foldl_cons, ← ih]
      congr 1
      cases o with
      | none => rfl
      | some q =>
        show stepE (q.map f) p = (stepE q p).map (List.map f)
        unfold stepE
        rw [a.evs]
        by_cases c : p ∈ EG.evs q
        · rw [if_pos c, if_pos c, a.beh c]; rfl
        · rw [if_neg c, if_neg c]; rfl
  exact go ps (some r)
theorem Aff.show (a : Aff f) (r : Rw) (ps : List Pr) : alikeB ((EG.rbeh (r.map f) ps).getD []) = alikeB ((EG.rbeh r ps).getD []) := by
  rw [a.rbeh]
  cases EG.rbeh r ps with
  | none => rfl
  | some q => exact a.alike q
theorem Aff.noAl (a : Aff f) {r : Rw} : EG.noAl (r.map f) ↔ EG.noAl r := by
  constructor
  · intro h n x hx
    have := h n _ (a.rch hx)
    rwa [a.alike] at this
  · intro h n y hy
    obtain ⟨x, rfl, hx⟩ := a.rch_back hy
    rw [a.alike]
    exact h n x hx
/-- the answers of both: of one kind, as long -/
theorem Aff.ans (a : Aff f) {r : Rw} : ∀ {A B : Option (List Pr)}, AnsFor r A → AnsFor (r.map f) B → (A = none ∧ B = none) ∨ ∃ ps qs, A = some ps ∧ B = some qs ∧ ps.length = qs.length
  | none, none, _, _ => .inl ⟨rfl, rfl⟩
  | none, some qs, h, k => by
    obtain ⟨y, h1, h2, _⟩ := k
    have h3 := (a.noAl.mpr h) _ _ (rbeh_rch _ rfl h1)
    rw [h2] at h3
    cases h3
  | some ps, none, h, k => by
    obtain ⟨y, h1, h2, _⟩ := h
    have h3 := (a.noAl.mp k) _ _ (rbeh_rch _ rfl h1)
    rw [h2] at h3
    cases h3
  | some ps, some qs, h, k => by
    obtain ⟨x, h1, h2, h3⟩ := h
    obtain ⟨y, k1, k2, k3⟩ := k
    refine .inr ⟨ps, qs, rfl, rfl, ?_⟩
    rcases Nat.lt_trichotomy ps.length qs.length with l | l | l
    · have := k3 _ _ l (a.rch (rbeh_rch _ rfl h1))
      rw [a.alike, h2] at this
      cases this
    · exact l
    · obtain ⟨y0, rfl, hy⟩ := a.rch_back (rbeh_rch _ rfl k1)
      have := h3 _ _ l hy
      rw [a.alike] at k2
      rw [k2] at this
      cases this
end
/-- no way is as long -/
def Dep (r : Rw) (m : Nat) : Prop := ∀ k x, Rch r k x → k < m
theorem Dep.zero {r : Rw} (h : Dep r 0) : False := Nat.not_lt_zero _ (h 0 r (.zero _))
theorem Dep.fall {r : Rw} {m : Nat} {p : Pr} (h : Dep r (m + 1)) (hp : p ∈ evs r) : Dep (behP r p) m := fun k x hk => Nat.lt_of_succ_lt_succ (h (k + 1) x (hk.front hp))
theorem Dep.aff {f : Int → Int} (a : Aff f) {r : Rw} {m : Nat} (h : Dep r m) : Dep (r.map f) m := fun k y hk => by
  obtain ⟨x, _, hx⟩ := a.rch_back hk
  exact h k x hx
theorem dep12 {r : Rw} (h : RowOk r 5 12) : Dep r 91 := fun k x hk => by
  have h1 := mz12 h
  have go : ∀ {n : Nat} {y : Rw}, Rch r n y → mz y + 2 * n ≤ mz r := by
    intro n y hy
    induction hy with
    | zero => show mz _ + 2 * ((0 : Nat) : Int) ≤ _; omega
    | step h hp ih =>
      have := mz_fall hp
      push_cast
      omega
  have h2 := go hk
  have h3 := mz_nonneg x
  omega
end EG

/-! bounds_of, fewest_most. -/
namespace EG
open PySem L2
def IsBt (H : Hp) (v : V) (r : Rw) : Prop := ∃ (t : Addr) (lo hi : Nat), v = .ref t ∧ H t = some (.tup [.int (lo : Int), .int (hi : Int)]) ∧ Bd r lo hi
def KnE (H : Hp) (e : List Key × V) (r : Rw) : Prop := e.1 = rowKey r ∧ IsBt H e.2 r
/-- what is known -/
def Kn (H : Hp) (kd : Addr) (n : Nat) : Prop := ∃ kvs ks, H kd = some (.dT kvs) ∧ Paired (KnE H) kvs ks ∧ ks.Nodup ∧ ∀ r ∈ ks, r.length = n ∧ ∀ x ∈ r, 0 ≤ x ∧ x ≤ 20
theorem KnE.mono {H H' : Hp} (s : TupS H H') {e : List Key × V} {r : Rw} (h : KnE H e r) : KnE H' e r := by
  obtain ⟨h1, t, lo, hi, h2, h3, h4⟩ := h
  exact ⟨h1, t, lo, hi, h2, s _ _ h3, h4⟩
theorem Kn.mono {H H' : Hp} {kd : Addr} {n : Nat} (s : TupS H H') (e : ∀ kvs, H kd = some (.dT kvs) → H' kd = some (.dT kvs)) (h : Kn H kd n) : Kn H' kd n := by
  obtain ⟨kvs, ks, h1, h2, h3, h4⟩ := h
  exact ⟨kvs, ks, e _ h1, Paired.mapP h2 fun _ _ q => q.mono s, h3, h4⟩
theorem Kn.same {H H' : Hp} {kd : Addr} {n : Nat} (s : Same H H') (h : Kn H kd n) : Kn H' kd n := h.mono (Same.tups s) fun _ e => s _ _ e
theorem kn_val {H : Hp} {r : Rw} : ∀ {kvs : List (List Key × V)} {ks : List Rw}, Paired (KnE H) kvs ks → (valV kvs (rowKey r) = none ∧ r ∉ ks) ∨ ∃ v, valV kvs (rowKey r) = some v ∧ IsBt H v r
  | _, _, .nil => .inl ⟨rfl, List.not_mem_nil⟩
  | _, _, .cons (a := e) (b := q) (l₁ := kvs) (l₂ := ks) h t => by
    obtain ⟨h1, h2⟩ := h
    by_cases c : q = r
    · subst c
      exact .inr ⟨_, valV_pos h1, h2⟩
    · have c2 : ¬ e.1 = rowKey r := fun z => c (rowKey_inj (h1.symm.trans z))
      rw [valV_neg c2]
      rcases kn_val t with ⟨h3, h4⟩ | h3
      · exact .inl ⟨h3, fun z => by
          rcases List.mem_cons.mp z with z | z
          · exact c z.symm
          · exact h4 z⟩
      · exact .inr h3
theorem kn_put {H : Hp} {r : Rw} {u : Addr} {lo hi : Nat} (hu : H u = some (.tup [.int (lo : Int), .int (hi : Int)])) (hb : Bd r lo hi) : ∀ {kvs : List (List Key × V)} {ks : List Rw}, Paired (KnE H) kvs ks →
    Paired (KnE H) (kvs.map fun kv => if kv.1 = rowKey r then (kv.1, V.ref u) else kv) ks
  | _, _, .nil => .nil
  | _, _, .cons (a := e) (b := q) (l₁ := kvs) (l₂ := ks) h t => by
    rw [List.map_cons]
    refine .cons ?_ (kn_put hu hb t)
    split
    · rename_i c
      have eq : q = r := rowKey_inj (h.1.symm.trans c)
      exact ⟨h.1, u, lo, hi, rfl, hu, by rw [eq]; exact hb⟩
    · exact h
def Sx (kd : Addr) (H H' : Hp) : Prop := ∀ b o, b ≠ kd → H b = some o → H' b = some o
theorem Same.sx {kd : Addr} {H H' : Hp} (s : Same H H') : Sx kd H H' := fun b o _ h => s b o h
theorem Sx.trans {kd : Addr} {H H1 H2 : Hp} (a : Sx kd H H1) (b : Sx kd H1 H2) : Sx kd H H2 := fun c o n h => b c o n (a c o n h)
theorem sx_upd {kd : Addr} {H : Hp} {o : HO} : Sx kd H (upd H kd o) := fun b u n h => by rw [upd_ne n]; exact h
theorem Sx.new {kd D : Addr} {H H' : Hp} {o : HO} (s : Sx kd H H') (h : H D = none) : Sx kd H (upd H' D o) := fun b u n e => by
  rw [upd_ne (ne_of_none e h)]; exact s b u n e
section
variable {P : Program} {w : World} {K : PySem.W.Frag} {mg : Str → Option Value} {base : Heap}
def sp_bounds (m : Nat) : Sp := fun vs H Q _ => ∃ (a kd : Addr) (ns : Rw), vs = [.ref a, .ref kd] ∧ Lst H a ns ∧ Small ns ∧ Dep ns m ∧ Kn H kd ns.length ∧
  ∀ H' t (lo hi : Nat), Sx kd H H' → Kn H' kd ns.length → H' t = some (.tup [.int (lo : Int), .int (hi : Int)]) → Bd ns lo hi → Q (.ref t) H'
abbrev N_bounds_of : List Str := ["row", "known", "spot", "some", "evening", "low", "high"]
theorem bounds_step {f : Addr} {fd : FuncData} {m : Nat} (F : Fun K "bounds_of" "bounds_of" s_bounds_of f fd) (B : Blt mg) (c_evenings_of : Cal CX0 P w K mg base "evenings_of" ["row"] 1 (sp_evenings_of K))
    (c_behind : Cal CX0 P w K mg base "behind" ["row", "evening"] 1 (sp_behind K)) (c_bounds_of : Cal CX0 P w K mg base "bounds_of" ["row", "known"] (m + 1) (sp_bounds m)) : FnOk P w K mg base CX0 (m + 1 + 1) f fd ["row", "known"] (sp_bounds (m + 1)) := by
  refine F.ok sc_bounds_of (fun vs H Q E h => ?_) (fun cdv A outer s H vs Q E hr h => ?_)
  · obtain ⟨a, kd, ns, rfl, _⟩ := h
    rfl
  · obtain ⟨a, kd, ns, rfl, hS, ok, hmz, kn, q⟩ := h
    refine ⟨_, (pss_cons (ps_set (i := 2) sc_bounds_of.nd rfl (.inl rfl) (pe_callTy (r := rTupOf K) call_tuple_of (by rfl) B.tuple PyProof.Rows.boot_tuple (pa_cons (pv 0) pa_nil)))
    (pss_cons (ps_if (pt_cmp (pc_dnotin (hu_of hr) (pv 2) (pv 1)))
    (pss_cons (ps_setLc (i := 3) (own := [("evening", 4)]) (g := gName 4) (tt := tYes) rfl sc_bounds_of.nd rfl rfl (sw_true rfl rfl rfl (by decide +kernel)) (pi_list (pe_cal c_evenings_of hr (by rfl) (pa_cons (pv 0) pa_nil) (Nat.le_add_left 1 m))) (blkOk_by (N := N_bounds_of) (sc := defScope s_bounds_of) (by decide +kernel)) (fun _ _ _ _ _ => (pg_name (i := 4) sc_bounds_of.nd rfl (.inl rfl))) (fun _ _ _ _ _ => pts_nil) (fun _ _ _ _ _ => (pe_cal c_bounds_of hr (by rfl) (pa_cons (pe_cal c_behind hr (by rfl) (pa_cons (pv 0) (pa_cons (pv 4) pa_nil)) (Nat.le_add_left 1 m)) (pa_cons (pv 1) pa_nil)) (Nat.le_refl _))))
      (pss_one (ps_if (pt_cmpR (r := rEqD K) (op_eqD hr.units) (pv 3) (pe_lst pa_nil) (nomark _))
      (pss_one (ps_dput (hu_of hr) (pv 1) (pv 2) (pe_tup (pa_cons pe_int (pa_cons pe_int pa_nil))) rfl))
      (pss_one (ps_dput (hu_of hr) (pv 1) (pv 2) (pe_tup (pa_cons (pe_op op_add pe_int (pe_callB (r := rMin K) (cr_min rfl) (by rfl) B.min PyProof.Rows.boot_min (pa_cons (pe_lc (own := [("low", 5), ("high", 6)]) (g := gTup K 2 (gCons (gName 5) (gCons (gName 6) gNil))) (tt := tYes) rfl sc_bounds_of.nd (pi_list (pv 3)) (blkOk_by (N := N_bounds_of) (sc := defScope s_bounds_of) (by decide +kernel)) (fun _ _ _ _ _ => (pg_tup rfl (pgs_cons (pg_name (i := 5) sc_bounds_of.nd rfl (.inl rfl)) (pgs_cons (pg_name (i := 6) sc_bounds_of.nd rfl (.inl rfl)) pgs_nil)))) (fun _ _ _ _ _ => pts_nil) (fun _ _ _ _ _ => (pv 5))) pa_nil))) (pa_cons (pe_op op_add pe_int (pe_callB (r := rMax K) (cr_max rfl) (by rfl) B.max PyProof.Rows.boot_max (pa_cons (pe_lc (own := [("low", 5), ("high", 6)]) (g := gTup K 2 (gCons (gName 5) (gCons (gName 6) gNil))) (tt := tYes) rfl sc_bounds_of.nd (pi_list (pv 3)) (blkOk_by (N := N_bounds_of) (sc := defScope s_bounds_of) (by decide +kernel)) (fun _ _ _ _ _ => (pg_tup rfl (pgs_cons (pg_name (i := 5) sc_bounds_of.nd rfl (.inl rfl)) (pgs_cons (pg_name (i := 6) sc_bounds_of.nd rfl (.inl rfl)) pgs_nil)))) (fun _ _ _ _ _ => pts_nil) (fun _ _ _ _ _ => (pv 6))) pa_nil))) pa_nil))) rfl)))))
    pss_nil)
    (pss_one (ps_ret (pe_dget (hu_of hr) (pv 1) (pv 2) (fun _ _ => rfl)))))), ?_⟩
    refine ⟨.ref a, rfl, a, _, rfl, .inl ⟨hS.sq, fun t ht => ?_⟩⟩
    have s1 : Same H (upd H t (.tup (ns.map V.int))) := same_new ht
    have ht1 : (upd H t (.tup (ns.map V.int))) t = some (.tup ((rowKey ns).map kV)) := by rw [rowKey_V]; exact upd_same
    have kn1 := kn.same s1
    generalize upd H t (.tup (ns.map V.int)) = H1 at s1 ht1 kn1
    obtain ⟨kvs, ks, hkd, pk, ndk, rk⟩ := kn1
    refine ⟨.ref t, rfl, .ref kd, rfl, kd, _, rfl, DGet.t (k := rowKey ns) hkd ht1, _, rfl, ?_⟩
    rcases kn_val (r := ns) pk with ⟨hv, hni⟩ | ⟨v, hv, tt, lo, hi, ev, htt, hb⟩
    · -- not known
      refine itP (by rw [hv]; rfl) ?_
      have nkt : t ≠ kd := ne_of ht1 hkd (by intro z; cases z)
      refine ⟨.ref a, rfl, a, ns, rfl, (hS.mono s1).sq, ok.row12, fun H2 p ws s2 hp hws pe => ⟨p, rfl, ⟨_, SqL.of hws⟩, fun D hD => ?_⟩⟩
      have kn2 : Kn H2 kd ns.length := Kn.same s2 ⟨kvs, ks, hkd, pk, ndk, rk⟩
      have hkd2 := s2 _ _ hkd
      have nDk : D ≠ kd := (ne_of_none hkd2 hD).symm
      have npk : p ≠ kd := ne_of hws hkd2 (by intro z; cases z)
      have nak : a ≠ kd := ne_of (show H1 a = _ from hS.mono s1) hkd (by intro z; cases z)
      refine lc_list (K := K) (a := p) (xs := ws) (fun i H' => ∃ acc bs, Sx kd H2 H' ∧ Kn H' kd ns.length ∧ H' D = some (.lst acc) ∧ Prs H' acc bs ∧ Paired (BdP ns) bs ((evs ns).take i))
        ⟨[], [], Sx.new (Same.sx (Same.refl _)) hD, kn2.same (same_new hD), upd_same, .nil, .nil⟩ (fun i H' _ h => ?_) (fun i x H3 hx h => ?_) (fun H3 h => ?_)
      · obtain ⟨_, _, s3, _⟩ := h
        exact SqL.of (s3 _ _ npk hws)
      · obtain ⟨acc, bs, s3, kn3, hD3, pr3, bp3⟩ := h
        obtain ⟨pp, hpp, tt, rfl, htt⟩ := prs_at pe hx
        have hpe := List.mem_of_getElem? hpp
        obtain ⟨i1, j1, epp, hij, hj1, hgd⟩ := mem_evs.mp hpe
        have ntk : tt ≠ kd := ne_of htt hkd2 (by intro z; cases z)
        have htt3 := s3 _ _ ntk htt
        have hS3 : Lst H3 a ns := s3 _ _ nak (s2 _ _ (hS.mono s1))
        refine ⟨rfl, iteT (B := True) ?_⟩
        refine ⟨.ref a, rfl, .ref tt, rfl, a, tt, ns, i1, j1, rfl, hS3.sq, ?_, by omega, hj1, ok.row12, fun H4 th s4 hth hTh => ?_⟩
        · rw [epp] at htt3
          exact SqT.of htt3
        have eb : beh ns i1 j1 = behP ns pp := by rw [epp]; rfl
        rw [eb] at hTh
        refine ⟨.ref kd, rfl, th, kd, behP ns pp, rfl, hTh, ok.beh hpe, hmz.fall hpe, by rw [behP_length]; exact kn3.same s4, fun H5 u lo hi s5 kn5 hu hb => ?_⟩
        rw [behP_length] at kn5
        have hD5 := s5 _ _ nDk (s4 _ _ hD3)
        have li : acc.length ≤ (evs ns).length := by
          rw [pd_len pr3, pd_len bp3, List.length_take]
          omega
        have le := evs_len ok.row12
        have nuD : u ≠ D := ne_of hu hD5 (by intro z; cases z)
        have tup5 : TupS H3 H5 := fun b xs hb2 => s5 _ _ (by
          intro z
          obtain ⟨kv5, _, hk5, _⟩ := kn3
          rw [z, hk5] at hb2
          cases hb2) (s4 _ _ hb2)
        refine ⟨acc, hD5, small1000 (by omega), acc ++ [.ref u], bs ++ [((lo : Int), (hi : Int))], Sx.new (s3.trans ((Same.sx s4).trans s5)) hD, kn5.mono (tups_lst hD5) (fun _ e => by rw [upd_ne nDk.symm]; exact e), upd_same, ?_, ?_⟩
        · exact prs_app ((pr3.mono tup5).mono (tups_lst hD5)) (.cons ⟨u, rfl, by rw [upd_ne nuD]; exact hu⟩ .nil)
        · rw [List.take_add_one, hpp]
          exact pd_app bp3 (.cons ⟨lo, hi, rfl, hb⟩ .nil)
      · obtain ⟨acc, bs, s3, kn3, hD3, pr3, bp3⟩ := h
        rw [List.take_of_length_le (by rw [pd_len pe]; exact Nat.le_refl _)] at bp3
        have s13 : Sx kd H1 H3 := (Same.sx s2).trans s3
        have ht3 := s13 _ _ nkt ht1
        refine ⟨.ref D, rfl, Nat.zero_le _, fun z hz => ?_⟩
        have s4 : Same H3 (upd H3 z (.lst [])) := same_new hz
        refine ⟨prsD bs, prsD [], dp_prs (SqL.of (s4 _ _ hD3)) (pr3.mono (Same.tups s4)), dp_prs (SqL.of upd_same) .nil, shaped_prs _, shaped_prs _, _, rfl, ?_⟩
        rw [eqv_prs]
        have kn4 := kn3.same s4
        have ht4 := s4 _ _ ht3
        have hD4 := s4 _ _ hD3
        have pr4 := pr3.mono (Same.tups s4)
        have s04 : Sx kd H (upd H3 z (.lst [])) := ((Same.sx s1).trans s13).trans (Same.sx s4)
        generalize upd H3 z (.lst []) = H4 at kn4 ht4 hD4 pr4 s04
        -- what is put, then read
        have put : ∀ (H5 : Hp) (u : Addr) (lo hi : Nat), Same H4 H5 → H5 u = some (.tup [.int (lo : Int), .int (hi : Int)]) → Bd ns lo hi →
            ∃ (a1 : Addr) (H6 : Hp), V.ref kd = V.ref a1 ∧ DPut H5 a1 (.ref t) (.ref u) H6 ∧ ∃ (b : Addr) (v : V), V.ref kd = V.ref b ∧ DGet H6 b (.ref t) (some v) ∧ Q v H6 := fun H5 u lo hi s5 hu hb => by
          obtain ⟨kvs5, ks5, hkd5, pk5, ndk5, rk5⟩ := kn4.same s5
          have cnt := small_count ndk5 ok.len5 rk5
          have lk : kvs5.length = ks5.length := pd_len pk5
          have ht5 := s5 _ _ ht4
          have nuk : u ≠ kd := ne_of hu hkd5 (by intro z; cases z)
          have s6 : Sx kd H5 (upd H5 kd (.dT (putK kvs5 (rowKey ns) (.ref u)))) := sx_upd
          have hk6 : (upd H5 kd (.dT (putK kvs5 (rowKey ns) (.ref u)))) kd = some (.dT (putK kvs5 (rowKey ns) (.ref u))) := upd_same
          have hu6 := s6 _ _ nuk hu
          have ht6 := s6 _ _ nkt ht5
          have tp6 : TupS H5 (upd H5 kd (.dT (putK kvs5 (rowKey ns) (.ref u)))) := tups_dT hkd5
          refine ⟨kd, _, rfl, DPut.t (k := rowKey ns) hkd5 ht5 (lineB (by omega)), kd, .ref u, rfl, ?_, q _ u lo hi ((s04.trans (Same.sx s5)).trans s6) ?_ hu6 hb⟩
          · have e := DGet.t (k := rowKey ns) hk6 ht6
            rw [valV_put, if_pos rfl] at e
            exact e
          · rcases kn_val (r := ns) pk5 with ⟨hv5, hn5⟩ | ⟨v5, hv5, t5, lo5, hi5, rfl, ht5', hb5⟩
            · refine ⟨_, ks5 ++ [ns], hk6, ?_, ?_, fun r hr => ?_⟩
              · have kk := pd_app (Paired.mapP pk5 fun _ _ z => z.mono tp6) (.cons (F := KnE (upd H5 kd (.dT (putK kvs5 (rowKey ns) (.ref u))))) (a := (rowKey ns, V.ref u)) (b := ns) ⟨rfl, u, lo, hi, rfl, hu6, hb⟩ .nil)
                rw [← putK_new (.ref u) hv5] at kk
                exact kk
              · exact List.nodup_append.mpr ⟨ndk5, List.nodup_cons.mpr ⟨List.not_mem_nil, List.nodup_nil⟩, fun x hx y hy e => hn5 (by rw [List.mem_singleton] at hy; rw [← hy, ← e]; exact hx)⟩
              · rcases List.mem_append.mp hr with hr | hr
                · exact rk5 r hr
                · rw [List.mem_singleton.mp hr]
                  exact ⟨rfl, ok.2.2⟩
            · refine ⟨_, ks5, hk6, ?_, ndk5, rk5⟩
              have e : putK kvs5 (rowKey ns) (.ref u) = kvs5.map fun kv => if kv.1 = rowKey ns then (kv.1, V.ref u) else kv := by
                unfold putK
                rw [valV_any, hv5]
                exact if_pos rfl
              have kk := kn_put hu6 hb (Paired.mapP pk5 fun _ _ z => z.mono tp6)
              rw [← e] at kk
              exact kk
        by_cases cb : bs = []
        · refine itP (decide_eq_true cb) ?_
          subst cb
          have ev0 : evs ns = [] := List.length_eq_zero_iff.mp (pd_len bp3).symm
          refine ⟨(by show 2 ≤ sizeLine; decide), fun u hu => ?_⟩
          obtain ⟨a1, H6, e1, e2, b, v, e3, e4, e5⟩ := put _ u 0 0 (same_new hu) upd_same (Bd.nil ev0)
          exact ⟨.ref kd, rfl, .ref t, rfl, a1, H6, e1, e2, .ref kd, rfl, .ref t, rfl, b, v, e3, e4, e5⟩
        · refine itN (by rw [decide_eq_false cb]; decide) ?_
          have lb : acc.length = bs.length := pd_len pr4
          have lb0 : 0 < bs.length := List.length_pos_iff.mpr cb
          have lb2 : bs.length ≤ 144 := by rw [pd_len bp3]; exact evs_len ok.row12
          refine ⟨.ref D, rfl, D, rfl, ⟨_, SqL.of hD4⟩, fun D2 hD2 => ?_⟩
          refine lc_list (K := K) (a := D) (xs := acc) (fun i H' => Same H4 H' ∧ H' D2 = some (.lst (((bs.take i).map (·.1)).map V.int))) ⟨same_new hD2, upd_same⟩ (fun i H' _ h => SqL.of (h.1 _ _ hD4)) (fun i x H5 hx h => ?_) (fun H5 h => ?_)
          · obtain ⟨s5, hD5⟩ := h
            obtain ⟨bb, hbb, tt, rfl, htt⟩ := prs_at pr4 hx
            refine ⟨tt, _, rfl, SqT.of (s5 _ _ htt), rfl, _, _, rfl, _, _, rfl, rfl, rfl, iteT (B := True) ⟨_, rfl, _, hD5, small1000 (by rw [List.length_map, List.length_map, List.length_take]; omega), same_upd2 s5 hD2, ?_⟩⟩
            rw [upd_same, List.take_add_one, hbb, List.map_append, List.map_append]
            rfl
          · obtain ⟨s5, hD5⟩ := h
            rw [List.take_of_length_le (by omega)] at hD5
            refine ⟨D2, _, rfl, SqL.of hD5, by rw [List.length_map]; exact lb0, fun mn mn1 mn2 => ?_⟩
            refine ⟨_, _, rfl, rfl, ?_⟩
            refine ⟨.ref D, rfl, D, rfl, ⟨_, SqL.of (s5 _ _ hD4)⟩, fun D3 hD3' => ?_⟩
            refine lc_list (K := K) (a := D) (xs := acc) (fun i H' => Same H5 H' ∧ H' D3 = some (.lst (((bs.take i).map (·.2)).map V.int))) ⟨same_new hD3', upd_same⟩ (fun i H' _ h => SqL.of (h.1 _ _ (s5 _ _ hD4))) (fun i x H6 hx h => ?_) (fun H6 h => ?_)
            · obtain ⟨s6, hD6⟩ := h
              obtain ⟨bb, hbb, tt, rfl, htt⟩ := prs_at pr4 hx
              refine ⟨tt, _, rfl, SqT.of (s6 _ _ (s5 _ _ htt)), rfl, _, _, rfl, _, _, rfl, rfl, rfl, iteT (B := True) ⟨_, rfl, _, hD6, small1000 (by rw [List.length_map, List.length_map, List.length_take]; omega), same_upd2 s6 hD3', ?_⟩⟩
              rw [upd_same, List.take_add_one, hbb, List.map_append, List.map_append]
              rfl
            · obtain ⟨s6, hD6⟩ := h
              rw [List.take_of_length_le (by omega)] at hD6
              refine ⟨D3, _, rfl, SqL.of hD6, by rw [List.length_map]; exact lb0, fun mx mx1 mx2 => ?_⟩
              refine ⟨_, _, rfl, rfl, (by show 2 ≤ sizeLine; decide), fun u hu => ?_⟩
              obtain ⟨lo, hi, elo, ehi, hb⟩ := Bd.step bp3 mn1 mn2 mx1 mx2
              have hut : (upd H6 u (.tup [V.int (1 + mn), V.int (1 + mx)])) u = some (.tup [.int (lo : Int), .int (hi : Int)]) := by rw [upd_same, elo, ehi]
              obtain ⟨a1, H7, e1, e2, b, v, e3, e4, e5⟩ := put _ u lo hi ((s5.trans s6).trans (same_new hu)) hut hb
              exact ⟨.ref kd, rfl, .ref t, rfl, a1, H7, e1, e2, .ref kd, rfl, .ref t, rfl, b, v, e3, e4, e5⟩
    · refine itN (by rw [hv]; simp) ?_
      exact ⟨.ref kd, rfl, .ref t, rfl, kd, v, rfl, hv ▸ DGet.t hkd ht1, by rw [ev]; exact q H1 tt lo hi (Same.sx s1) ⟨kvs, ks, hkd, pk, ndk, rk⟩ htt hb⟩
theorem ok_bounds {f : Addr} {fd : FuncData} (F : Fun K "bounds_of" "bounds_of" s_bounds_of f fd) (B : Blt mg) (c_evenings_of : Cal CX0 P w K mg base "evenings_of" ["row"] 1 (sp_evenings_of K))
    (c_behind : Cal CX0 P w K mg base "behind" ["row", "evening"] 1 (sp_behind K)) (gf : mg "bounds_of" = some (.ref f)) (kf : PySem.W.keepIn K (.ref f) = true) (bf : Binds K fd ["row", "known"] []) : ∀ m : Nat, FnOk P w K mg base CX0 (m + 1) f fd ["row", "known"] (sp_bounds m)
  | 0 => by
    have no : ∀ vs H Q E, ¬ sp_bounds 0 vs H Q E := fun vs H Q E h => by
      obtain ⟨a, kd, ns, _, _, _, h, _⟩ := h
      exact h.zero
    exact ⟨fun vs H Q E h => (no _ _ _ _ h).elim, fun A outer s H args us vs Q E _ _ _ _ h => (no _ _ _ _ h).elim⟩
  | m + 1 => bounds_step F B c_evenings_of c_behind ⟨f, fd, ok_bounds F B c_evenings_of c_behind gf kf bf m, gf, kf, bf⟩
def sp_fewest_most : Sp := fun vs H Q _ => ∃ (a : Addr) (ns : Rw), vs = [.ref a] ∧ Lst H a ns ∧ Small ns ∧ Dep ns 91 ∧ ∀ H' t (lo hi : Nat), Same H H' → H' t = some (.tup [.int (lo : Int), .int (hi : Int)]) → Bd ns lo hi → Q (.ref t) H'
def sp_few6 (K : PySem.W.Frag) (CB : Addr) : Sp := fun vs H Q E => sp_fewest_most vs H Q E ∨ sp_badX K CB 5 20 vs H Q E
theorem ok_few6 {f CB : Addr} {fd : FuncData} {t1 t2 : Tok} (F : Fun K "fewest_most" "fewest_most" s_fewest_most f fd) (g_FEW : mg "FEW" = some (.int 5 t1)) (g_SMALL : mg "SMALL" = some (.int 20 t2))
    (c_check_row : Cal (L2.CX P w) P w K mg base "check_row" ["row", "most", "greatest"] 2 (sp_check_rowX K CB)) (c_bounds_of : Cal CX0 P w K mg base "bounds_of" ["row", "known"] 92 (sp_bounds 91)) : FnOk P w K mg base (L2.CX P w) 93 f fd ["row"] (sp_few6 K CB) := by
  refine F.okX sc_fewest_most (fun vs H Q E h => ?_) (fun cdv A outer s H vs Q E hr h => ?_)
  · rcases h with ⟨a, ns, rfl, _⟩ | ⟨v, rfl, _⟩ <;> rfl
  · obtain ⟨v, rfl⟩ : ∃ v, vs = [v] := by rcases h with ⟨a, ns, rfl, _⟩ | ⟨v, rfl, _⟩ <;> exact ⟨_, rfl⟩
    refine ⟨_, pss_cons (ps_expr (pe_calX c_check_row hr (passes_call (takes_of rfl rfl rfl rfl) (fun _ _ _ _ h => h)) (by rfl) (pa_cons (pv 0) (pa_cons (pe_glob (v := .int 5) (by rfl) g_FEW ⟨_, rfl⟩) (pa_cons (pe_glob (v := .int 20) (by rfl) g_SMALL ⟨_, rfl⟩) pa_nil)))))
      (PSs.nox (pss_one (ps_ret (pe_cal c_bounds_of hr (by rfl) (pa_cons (pv 0) (pa_cons pe_dnewT pa_nil)))))), ?_⟩
    rcases h with ⟨a, ns, ev, hL, ok, hmz, q⟩ | ⟨v, ev, hb, e⟩
    · cases ev
      refine ⟨.ref a, rfl, .ref a, 5, 20, rfl, .inl ⟨a, ns, rfl, hL, by have := ok.len5; omega, ok, fun H1 s1 => ?_⟩⟩
      refine ⟨.ref a, rfl, fun kd hkd => ?_⟩
      have s2 : Same H1 (upd H1 kd (.dT [])) := same_new hkd
      refine ⟨a, kd, ns, rfl, (hL.mono s1).mono s2, ok, hmz, ⟨[], [], upd_same, .nil, List.nodup_nil, fun _ h => nomatch h⟩, fun H2 t lo hi sx _ ht hb => ?_⟩
      exact q H2 t lo hi (s1.trans fun b o h => sx b o (ne_of_none h hkd) (s2 b o h)) ht hb
    · cases ev
      exact ⟨v, rfl, v, 5, 20, rfl, .inr ⟨hb, e⟩⟩
end
end EG

/-! alike, evenings, with what they refuse. -/
namespace EG
open PySem L2
section
variable {P : Program} {w : World} {K : PySem.W.Frag} {mg : Str → Option Value} {base : Heap}
def sp_alike6 (K : PySem.W.Frag) (CB CA CN : Addr) : Sp := fun vs H Q E => sp_alike CA CN vs H Q E ∨ sp_badX K CB 5 20 vs H Q E
theorem ok_alike6 {f CB C_Alike C_Never : Addr} {fd : FuncData} {t1 t2 : Tok} (F : Fun K "alike" "alike" s_alike f fd) (g_FEW : mg "FEW" = some (.int 5 t1)) (g_SMALL : mg "SMALL" = some (.int 20 t2))
    (g_Alike : mg "Alike" = some (.ref C_Alike)) (g_Never : mg "Never" = some (.ref C_Never)) (cl_Never : ClF K C_Never) (i_Never : PySem.W.findIn K (.ref C_Never) "__init__" = some (some (.builtin "object.__init__")))
    (c_Alike_init : CalI CX0 P w K mg base C_Alike ["self", "evenings"] 1 (sp_al_init C_Alike)) (c_check_row : Cal (L2.CX P w) P w K mg base "check_row" ["row", "most", "greatest"] 2 (sp_check_rowX K CB))
    (c_way_to_alike : Cal CX0 P w K mg base "way_to_alike" ["row"] 2 sp_way) : FnOk P w K mg base (L2.CX P w) 3 f fd ["row"] (sp_alike6 K CB C_Alike C_Never) := by
  refine F.okX sc_alike (fun vs H Q E h => ?_) (fun cdv A outer s H vs Q E hr h => ?_)
  · rcases h with ⟨a, ns, rfl, _⟩ | ⟨v, rfl, _⟩ <;> rfl
  · obtain ⟨v, rfl⟩ : ∃ v, vs = [v] := by rcases h with ⟨a, ns, rfl, _⟩ | ⟨v, rfl, _⟩ <;> exact ⟨_, rfl⟩
    refine ⟨_, (pss_cons (ps_expr (pe_calX c_check_row hr (passes_call (takes_of rfl rfl rfl rfl) (fun _ _ _ _ h => h)) (by rfl) (pa_cons (pv 0) (pa_cons (pe_glob (v := .int 5) (by rfl) g_FEW ⟨_, rfl⟩) (pa_cons (pe_glob (v := .int 20) (by rfl) g_SMALL ⟨_, rfl⟩) pa_nil)))))
    (PSs.nox (pss_cons (ps_set (i := 1) sc_alike.nd rfl (.inl rfl) (pe_cal c_way_to_alike hr (by rfl) (pa_cons (pv 0) pa_nil)))
    (pss_one (ps_ret (pe_ifExp (pt_cmpR op_isN (pv 1) pe_non (nomark _)) (pe_makeN cl_Never.mks i_Never cl_Never.kp (by rfl) g_Never) (pe_makeC c_Alike_init hr (by rfl) g_Alike (pa_cons (pv 1) pa_nil)))))))), ?_⟩
    rcases h with ⟨a, ns, ev, hL, ok, q⟩ | ⟨v, ev, hb, e⟩
    rotate_left
    · cases ev
      exact ⟨v, rfl, v, 5, 20, rfl, .inr ⟨hb, e⟩⟩
    cases ev
    refine ⟨.ref a, rfl, .ref a, 5, 20, rfl, .inl ⟨a, ns, rfl, hL, by have := ok.len5; omega, ok, fun H1 s1 => ?_⟩⟩
    refine ⟨.ref a, rfl, a, ns, rfl, hL.mono s1, ok, fun H2 s2 hn => ?_, fun H2 g ps path r s2 hg pr hrb hal hmin => ?_⟩
    · refine ⟨.non, rfl, rfl, _, rfl, itP (by decide) ?_⟩
      intro x dx nx nd _
      have s12 := s1.trans s2
      refine q _ x none (s12.trans fun b u z => made_at z nx nd) (s12.free nx) ⟨dx, upd_same⟩ (fun g hg => ?_) hn
      obtain ⟨dx2, h2⟩ := hg
      rw [upd_same] at h2
      cases h2
    · refine ⟨.ref g, rfl, rfl, _, rfl, itN (by rw [decide_eq_false (by intro z; cases z)]; decide) ?_⟩
      have s12 := s1.trans s2
      refine ⟨.ref g, rfl, fun x dx nx nd _ => ⟨x, dx, g, ps, rfl, upd_same, made_at hg nx nd, fun H3 o no ho hx hk => ⟨rfl, ?_⟩⟩⟩
      have s3 : Same H2 H3 := Same.made nx nd hk
      refine q H3 x (some path) (s12.trans s3) (s12.free nx) ⟨o, ps, ⟨dx, hx⟩, ho, pr.mono (Same.tups s3)⟩ (fun g2 hg2 => ?_) ⟨r, hrb, hal, hmin⟩
      obtain ⟨dx2, h2⟩ := hg2
      rw [hx] at h2
      have e1 : alF o = alF g2 := (HO.ins.inj (Option.some.inj h2)).2.2
      have e2 := alF_ev o
      rw [e1, alF_ev g2] at e2
      have e3 : g2 = o := V.ref.inj (Option.some.inj e2)
      rw [e3]
      have sm : Same H2 (upd (upd H2 dx (.own x)) x (.ins C_Alike dx [])) := fun b u z => made_at z nx nd
      exact (s12.trans sm).free no
def sp_evenings6 (K : PySem.W.Frag) (CB : Addr) : Sp := fun vs H Q E => sp_evenings vs H Q E ∨ sp_badX K CB 12 1000000 vs H Q E
theorem ok_evenings6 {f CB : Addr} {fd : FuncData} {t1 t2 : Tok} (F : Fun K "evenings" "evenings" s_evenings f fd) (cC : Cal (L2.CX P w) P w K mg base "check_row" ["row", "most", "greatest"] 2 (sp_check_rowX K CB))
    (cE : Cal CX0 P w K mg base "evenings_of" ["row"] 1 (sp_evenings_of K)) (g1 : mg "MOST" = some (.int 12 t1)) (g2 : mg "GREATEST" = some (.int 1000000 t2)) : FnOk P w K mg base (L2.CX P w) 3 f fd ["row"] (sp_evenings6 K CB) := by
  refine F.okX sc_evenings (fun vs H Q E h => ?_) (fun cdv A outer s H vs Q E hr h => ?_)
  · rcases h with ⟨a, ns, rfl, _⟩ | ⟨v, rfl, _⟩ <;> rfl
  · obtain ⟨v, rfl⟩ : ∃ v, vs = [v] := by rcases h with ⟨a, ns, rfl, _⟩ | ⟨v, rfl, _⟩ <;> exact ⟨_, rfl⟩
    refine ⟨_, pss_cons (ps_expr (pe_calX cC hr (passes_call (takes_of rfl rfl rfl rfl) (fun _ _ _ _ h => h)) (by rfl) (pa_cons (pv 0) (pa_cons (pe_glob (v := .int 12) (by rfl) g1 ⟨_, rfl⟩) (pa_cons (pe_glob (v := .int 1000000) (by rfl) g2 ⟨_, rfl⟩) pa_nil)))))
      (PSs.nox (pss_one (ps_ret (pe_cal cE hr (by rfl) (pa_cons (pv 0) pa_nil))))), ?_⟩
    rcases h with ⟨a, ns, ev, hL, ok, q⟩ | ⟨v, ev, hb, e⟩
    · cases ev
      have l12 := ok.len12
      refine ⟨.ref a, rfl, .ref a, 12, 1000000, rfl, .inl ⟨a, ns, rfl, hL, by omega, ok, fun H1 s1 => ?_⟩⟩
      exact ⟨.ref a, rfl, a, ns, rfl, (hL.mono s1).sq, l12, fun H2 p ws s2 hp e r => q H2 p ws (s1.trans s2) (s1.free hp) e r⟩
    · cases ev
      exact ⟨v, rfl, v, 12, 1000000, rfl, .inr ⟨hb, e⟩⟩
end
end EG

/-! isinstance of an answer. -/
namespace EG
open PySem L2
structure IsiF (K : PySem.W.Frag) (CA CN CR : Addr) : Prop where
  aa : PySem.W.kitOne K (.ref CA) (.ref CA) = some true
  an : PySem.W.kitOne K (.ref CA) (.ref CN) = some false
  ar : PySem.W.kitOne K (.ref CA) (.ref CR) = some true
  na : PySem.W.kitOne K (.ref CN) (.ref CA) = some false
  nn : PySem.W.kitOne K (.ref CN) (.ref CN) = some true
  nr : PySem.W.kitOne K (.ref CN) (.ref CR) = some true
theorem isi_ans {CA CN CR x : Addr} {H : Hp} (I : IsiF K CA CN CR) (cA : ClF K CA) (cN : ClF K CN) : ∀ {A : Option (List Pr)}, IsAns CA CN H x A →
    ∃ t, TyX K H (.ref x) t ∧ PySem.W.kitOne K t (.ref CA) = some A.isSome ∧ PySem.W.kitOne K t (.ref CN) = some A.isNone ∧ PySem.W.kitOne K t (.ref CR) = some true
  | none, ⟨dx, h⟩ => ⟨_, cN.ty h, I.na, I.nn, I.nr⟩
  | some _, ⟨g, ws, ⟨dx, h⟩, _, _⟩ => ⟨_, cA.ty h, I.aa, I.an, I.ar⟩
end EG

/-! _law_great_right. -/
namespace EG
open PySem PySem.Spec PyProof.Rows L2
theorem passF {X : Cx} : Passes (L2.CX X.prog X.w) X (fun _ _ _ => False) := passes_call LamX.takes0 (fun _ _ _ _ h => h)
def up3 (m x : Int) : Int := 3 * x + m
def dn20 (x : Int) : Int := 20 - x
theorem affU (m : Int) : Aff (up3 m) := aff3 m
theorem affD : Aff dn20 := aff20
theorem lt_map {f : Int → Int} (hf : ∀ x y, f x < f y → x < y) (hi : ∀ x y, f x = f y → x = y) : ∀ {x y : Rw}, x.map f < y.map f → x < y
  | _, [], h => by
    rw [List.map_nil] at h
    exact absurd h (List.not_lt_nil _)
  | [], b :: bs, _ => List.nil_lt_cons _ _
  | a :: as, b :: bs, h => by
    rw [List.map_cons, List.map_cons, List.cons_lt_cons_iff] at h
    rw [List.cons_lt_cons_iff]
    rcases h with h | ⟨h1, h2⟩
    · exact .inl (hf _ _ h)
    · exact .inr ⟨hi _ _ h1, lt_map hf hi h2⟩
theorem srt_sorted (L : List Rw) : (srt L).Pairwise fun a b => decide (a ≤ b) = true := List.pairwise_mergeSort srt_le_trans srt_le_total L
theorem srt_is {F E : List Rw} (p : F.Perm E) (o : E.Pairwise fun a b => decide (a ≤ b) = true) : srt F = E :=
  ((srt_perm F).trans p).eq_of_pairwise (fun a b _ _ h1 h2 => List.le_antisymm (of_decide_eq_true h1) (of_decide_eq_true h2)) (srt_sorted F) o
theorem srt_up {ns : Rw} {m : Int} {F G : List Rw} (hF : Stl ns F) (hG : Stl (ns.map (up3 m)) G) : srt G = (srt F).map (List.map (up3 m)) := by
  refine srt_is (((affU m).stl hF hG).trans ((srt_perm F).symm.map _)) ?_
  refine List.Pairwise.map _ (fun a b h => ?_) (srt_sorted F)
  refine decide_eq_true (List.not_lt.mp fun z => ?_)
  exact List.not_lt.mpr (of_decide_eq_true h) (lt_map (f := up3 m) (fun x y h => by unfold up3 at h; omega) (affU m).inj z)
theorem srt_dn {ns : Rw} {F G : List Rw} (hF : Stl ns F) (hG : Stl (ns.map dn20) G) : srt G = srt ((srt F).map (List.map dn20)) := srt_eq ((affD.stl hF hG).trans ((srt_perm F).symm.map _))
theorem stl_len {ns : Rw} {F : List Rw} (ok : Small ns) (h : Stl ns F) : (srt F).length ≤ 4084101 := by
  rw [(srt_perm F).length_eq]
  exact count_le ok h.1 fun r hr => by
    obtain ⟨k, hk, _⟩ := (h.2 r).mp hr
    exact ⟨k, hk⟩
theorem take_all {α β : Type} {F : α → β} {xs : List α} : (xs.take (xs.map F).length) = xs := by rw [List.length_map, List.take_length]
theorem dp_bls {K : PySem.W.Frag} {H : Hp} : ∀ bs : List Bool, DpAll K H (bs.map V.bl) (bs.map PyData.bool)
  | [] => .nil
  | b :: bs => .cons (.bl b) (dp_bls bs)
def boolsD (bs : List Bool) : PyData := .list (bs.map PyData.bool)
theorem dp_bools {K : PySem.W.Frag} {H : Hp} {a : Addr} {bs : List Bool} (h : H a = some (.lst (bs.map V.bl))) : Dp K H (.ref a) (boolsD bs) := .lst (SqL.of h) (dp_bls bs)
theorem lay_bls : ∀ bs : List Bool, PyData.canLayAll0 (bs.map PyData.bool) = true ∧ PyData.depthAll (bs.map PyData.bool) = 0
  | [] => by simp [PyData.canLayAll0, PyData.depthAll]
  | b :: bs => by
    have ih := lay_bls bs
    refine ⟨by simp [PyData.canLayAll0, ih.1, PyData.canLay0], ?_⟩
    simp only [List.map_cons, PyData.depthAll, PyData.depth, ih.2]
    rfl
theorem shaped_bools (bs : List Bool) : SeqAt.shaped (boolsD bs) = true := by
  have h := lay_bls bs
  unfold SeqAt.shaped
  rw [Bool.and_eq_true]
  refine ⟨by simp only [boolsD, PyData.canLay0]; exact h.1, decide_eq_true ?_⟩
  simp only [boolsD, PyData.depth]
  omega
theorem nq_bools (bs : List Bool) : ¬ (!PyData.eqv (boolsD bs) (boolsD bs)) = true := by
  have h := lay_bls bs
  rw [SeqAt.eqv_refl _ (by simp only [boolsD, PyData.canLay0]; exact h.1)]
  decide
section
variable {P : Program} {w : World} {K : PySem.W.Frag} {mg : Str → Option Value} {base : Heap}
def sp_great : Sp := fun vs H Q _ => ∃ (a : Addr) (m : Int) (ns : Rw), vs = [.ref a, .int m] ∧ Lst H a ns ∧ RowOk ns 4 6 ∧ 0 ≤ m ∧ m ≤ 2 ∧ ∀ H', Same H H' → Q (.bl true) H'
abbrev N_l_great_right : List Str := ["_law_row", "_law_more", "_law_great", "_law_down", "_law_found", "_law_other", "_law_turned", "_law_some", "_law_number", "_law_end", "_law_one"]
theorem ok_great {f CB C_Alike C_Never C_Answer : Addr} {fd : FuncData} (F : Fun K "_law_great_right" "_law_great_right" s_l_great_right f fd) (B : Blt mg) (g_Alike : mg "Alike" = some (.ref C_Alike)) (g_Never : mg "Never" = some (.ref C_Never))
    (cl_Alike : ClF K C_Alike) (cl_Never : ClF K C_Never) (I : IsiF K C_Alike C_Never C_Answer) (nE : NoAttr K C_Alike "evenings")
    (c_fewest_most : Cal (L2.CX P w) P w K mg base "fewest_most" ["row"] 93 (sp_few6 K CB)) (c_ends : Cal (L2.CX P w) P w K mg base "ends" ["row"] 3 (sp_endsX K CB)) (c_alike : Cal (L2.CX P w) P w K mg base "alike" ["row"] 3 (sp_alike6 K CB C_Alike C_Never))
    (c_Alike_shows : CalM CX0 P w K mg base C_Alike "shows" ["self", "row"] 3 (sp_al_shows K C_Alike)) (c_Never_shows : CalM CX0 P w K mg base C_Never "shows" ["self", "row"] 3 (sp_nv_shows C_Never)) :
    FnOk P w K mg base CX0 94 f fd ["_law_row", "_law_more"] sp_great := by
  refine F.ok sc_l_great_right (fun vs H Q E h => ?_) (fun cdv A outer s H vs Q E hr h => ?_)
  · obtain ⟨a, m, ns, rfl, _⟩ := h
    rfl
  · obtain ⟨a, m, ns, rfl, hL, ok4, m0, m2, q⟩ := h
    refine ⟨_, (pss_cons (ps_setLc (i := 2) (own := [("_law_number", 8)]) (g := gName 8) (tt := tYes) rfl sc_l_great_right.nd rfl rfl (sw_true rfl rfl rfl (by decide +kernel)) (pi_list (pv 0)) (blkOk_by (N := N_l_great_right) (sc := defScope s_l_great_right) (by decide +kernel)) (fun _ _ _ _ _ => (pg_name (i := 8) sc_l_great_right.nd rfl (.inl rfl))) (fun _ _ _ _ _ => pts_nil) (fun _ _ _ _ _ => (pe_op op_add (pe_op op_mul pe_int (pv 8)) (pv 1))))
    (pss_cons (ps_setLc (i := 3) (own := [("_law_number", 8)]) (g := gName 8) (tt := tYes) rfl sc_l_great_right.nd rfl rfl (sw_true rfl rfl rfl (by decide +kernel)) (pi_list (pv 0)) (blkOk_by (N := N_l_great_right) (sc := defScope s_l_great_right) (by decide +kernel)) (fun _ _ _ _ _ => (pg_name (i := 8) sc_l_great_right.nd rfl (.inl rfl))) (fun _ _ _ _ _ => pts_nil) (fun _ _ _ _ _ => (pe_op op_sub pe_int (pv 8))))
    (pss_cons (ps_if (PW.pt (pw_or (pt_cmpR (r := rNeD K) (op_neD hr.units) (pe_calX (E := fun _ _ _ => False) c_fewest_most hr passF (by rfl) (pa_cons (pv 2) pa_nil)) (pe_calX (E := fun _ _ _ => False) c_fewest_most hr passF (by rfl) (pa_cons (pv 0) pa_nil)) (nomark _)) (pw_or1 (pt_cmpR (r := rNeD K) (op_neD hr.units) (pe_calX (E := fun _ _ _ => False) c_fewest_most hr passF (by rfl) (pa_cons (pv 3) pa_nil)) (pe_calX (E := fun _ _ _ => False) c_fewest_most hr passF (by rfl) (pa_cons (pv 0) pa_nil)) (nomark _)))))
    (pss_one (ps_ret pe_bl))
    pss_nil)
    (pss_cons (ps_if (pt_cmpR (r := rNeD K) (op_neD hr.units) (pe_calX (E := fun _ _ _ => False) c_ends hr passF (by rfl) (pa_cons (pv 2) pa_nil)) (pe_lc (own := [("_law_end", 9)]) (g := gName 9) (tt := tYes) rfl sc_l_great_right.nd (pi_list (pe_calX (E := fun _ _ _ => False) c_ends hr passF (by rfl) (pa_cons (pv 0) pa_nil))) (blkOk_by (N := N_l_great_right) (sc := defScope s_l_great_right) (by decide +kernel)) (fun _ _ _ _ _ => (pg_name (i := 9) sc_l_great_right.nd rfl (.inl rfl))) (fun _ _ _ _ _ => pts_nil) (fun _ _ _ _ _ => (pe_lc (own := [("_law_number", 8)]) (g := gName 8) (tt := tYes) (wi := iList K (tVar 9)) rfl sc_l_great_right.nd (pi_list (pv 9)) (blkOk_by (N := N_l_great_right) (by show blkC N_l_great_right (relS _ (defScope s_l_great_right)) _ _ = true; decide +kernel)) (fun _ _ _ _ _ => (pg_name (i := 8) sc_l_great_right.nd rfl (.inl rfl))) (fun _ _ _ _ _ => pts_nil) (fun _ _ _ _ _ => (pe_op op_add (pe_op op_mul pe_int (pv 8)) (pv 1)))))) (nomark _))
    (pss_one (ps_ret pe_bl))
    pss_nil)
    (pss_cons (ps_if (pt_cmpR (r := rNeD K) (op_neD hr.units) (pe_calX (E := fun _ _ _ => False) c_ends hr passF (by rfl) (pa_cons (pv 3) pa_nil)) (pe_callB (cr_sortRows (room65 hr)) (by rfl) B.sorted PyProof.Rows.boot_sorted (pa_cons (pe_lc (own := [("_law_end", 9)]) (g := gName 9) (tt := tYes) rfl sc_l_great_right.nd (pi_list (pe_calX (E := fun _ _ _ => False) c_ends hr passF (by rfl) (pa_cons (pv 0) pa_nil))) (blkOk_by (N := N_l_great_right) (sc := defScope s_l_great_right) (by decide +kernel)) (fun _ _ _ _ _ => (pg_name (i := 9) sc_l_great_right.nd rfl (.inl rfl))) (fun _ _ _ _ _ => pts_nil) (fun _ _ _ _ _ => (pe_lc (own := [("_law_number", 8)]) (g := gName 8) (tt := tYes) (wi := iList K (tVar 9)) rfl sc_l_great_right.nd (pi_list (pv 9)) (blkOk_by (N := N_l_great_right) (by show blkC N_l_great_right (relS _ (defScope s_l_great_right)) _ _ = true; decide +kernel)) (fun _ _ _ _ _ => (pg_name (i := 8) sc_l_great_right.nd rfl (.inl rfl))) (fun _ _ _ _ _ => pts_nil) (fun _ _ _ _ _ => (pe_op op_sub pe_int (pv 8)))))) pa_nil)) (nomark _))
    (pss_one (ps_ret pe_bl))
    pss_nil)
    (pss_cons (ps_par3 (i := 4) (j := 5) (l := 6) rfl sc_l_great_right.nd rfl rfl rfl (by decide) (by decide) (by decide) rfl rfl rfl (pa_cons (pe_calX (E := fun _ _ _ => False) c_alike hr passF (by rfl) (pa_cons (pv 0) pa_nil)) (pa_cons (pe_calX (E := fun _ _ _ => False) c_alike hr passF (by rfl) (pa_cons (pv 2) pa_nil)) (pa_cons (pe_calX (E := fun _ _ _ => False) c_alike hr passF (by rfl) (pa_cons (pv 3) pa_nil)) pa_nil))) (by rfl))
    (pss_cons (ps_if (pt_val (pe_callB (r := rIsi K) call_isi (by rfl) B.isi PyProof.Rows.boot_isinstance (pa_cons (pv 4) (pa_cons (pe_glob (v := .ref C_Never) (by rfl) g_Never rfl) pa_nil))))
    (pss_one (ps_ret (pe_and (pe_callB (r := rIsi K) call_isi (by rfl) B.isi PyProof.Rows.boot_isinstance (pa_cons (pv 5) (pa_cons (pe_glob (v := .ref C_Never) (by rfl) g_Never rfl) pa_nil))) (pe_and (pe_callB (r := rIsi K) call_isi (by rfl) B.isi PyProof.Rows.boot_isinstance (pa_cons (pv 6) (pa_cons (pe_glob (v := .ref C_Never) (by rfl) g_Never rfl) pa_nil))) (pe_one (pe_cmpR op_isBl (pe_shows (K := K) rfl c_Alike_shows c_Never_shows cl_Alike.cl cl_Never.cl hr (pv 4) (pa_cons (pv 2) pa_nil)) pe_bl (nomark _)))))))
    pss_nil)
    (pss_cons (ps_if (PW.pt (pw_or (pt_not (pt_val (pe_callB (r := rIsi K) call_isi (by rfl) B.isi PyProof.Rows.boot_isinstance (pa_cons (pv 5) (pa_cons (pe_glob (v := .ref C_Alike) (by rfl) g_Alike rfl) pa_nil))))) (pw_or1 (pt_not (pt_val (pe_callB (r := rIsi K) call_isi (by rfl) B.isi PyProof.Rows.boot_isinstance (pa_cons (pv 6) (pa_cons (pe_glob (v := .ref C_Alike) (by rfl) g_Alike rfl) pa_nil))))))))
    (pss_one (ps_ret pe_bl))
    pss_nil)
    (pss_cons (ps_if (PW.pt (pw_or (pt_cmpR op_ne (pe_callB (r := rLenS K) call_len_seq (by rfl) B.len PySem.boot_len (pa_cons (pe_fld (pv 5) rfl) pa_nil)) (pe_callB (r := rLenS K) call_len_seq (by rfl) B.len PySem.boot_len (pa_cons (pe_fld (pv 4) rfl) pa_nil)) (nomark _)) (pw_or1 (pt_cmpR op_ne (pe_callB (r := rLenS K) call_len_seq (by rfl) B.len PySem.boot_len (pa_cons (pe_fld (pv 6) rfl) pa_nil)) (pe_callB (r := rLenS K) call_len_seq (by rfl) B.len PySem.boot_len (pa_cons (pe_fld (pv 4) rfl) pa_nil)) (nomark _)))))
    (pss_one (ps_ret pe_bl))
    pss_nil)
    (pss_cons (ps_for PassesOwn.never rfl (pi_tup (pe_tup (pa_cons (pv 0) (pa_cons (pv 2) (pa_cons (pv 3) pa_nil))))) (pg_name (i := 7) sc_l_great_right.nd rfl (.inr rfl))
    (pss_one (ps_if (pt_cmpR (r := rNeD K) (op_neD hr.units) (pe_lc (own := [("_law_one", 10)]) (g := gName 10) (tt := tYes) rfl sc_l_great_right.nd (pi_tup (pe_tup (pa_cons (pv 4) (pa_cons (pv 5) (pa_cons (pv 6) pa_nil))))) (blkOk_by (N := N_l_great_right) (sc := defScope s_l_great_right) (by decide +kernel)) (fun _ _ _ _ _ => (pg_name (i := 10) sc_l_great_right.nd rfl (.inl rfl))) (fun _ _ _ _ _ => pts_nil) (fun _ _ _ _ _ => (pe_shows (K := K) rfl c_Alike_shows c_Never_shows cl_Alike.cl cl_Never.cl hr (pv 10) (pa_cons (pv 7) pa_nil)))) (pe_op op_rep (pe_lst (pa_cons pe_bl pa_nil)) pe_int) (nomark _))
      (pss_one (ps_ret pe_bl))
      pss_nil)))
    (pss_one (ps_ret pe_bl)))))))))))), ?_⟩
    have n4 : ns.length ≤ 4 := by have := ok4.2.1; omega
    have ok : Small ns := ok4.small (by decide) (by decide)
    have ok12 : RowOk ns 5 12 := ⟨ok4.1, by omega, fun x hx => ⟨(ok4.2.2 x hx).1, by have := (ok4.2.2 x hx).2; omega⟩⟩
    have dep := dep12 ok12
    have okG : Small (ns.map (up3 m)) := ⟨by rw [List.length_map]; exact ok4.1, by rw [List.length_map]; omega, fun x hx => by
      obtain ⟨y, hy, rfl⟩ := List.mem_map.mp hx
      have := ok4.2.2 y hy
      unfold up3
      omega⟩
    have okD : Small (ns.map dn20) := ⟨by rw [List.length_map]; exact ok4.1, by rw [List.length_map]; omega, fun x hx => by
      obtain ⟨y, hy, rfl⟩ := List.mem_map.mp hx
      have := ok4.2.2 y hy
      unfold dn20
      omega⟩
    have depG := dep.aff (affU m)
    have depD := dep.aff affD
    -- three times as much
    refine ⟨.ref a, rfl, a, rfl, ⟨_, hL.sq⟩, fun g hg => ?_⟩
    refine lc_list (K := K) (a := a) (xs := ns.map V.int) (fun i H' => Same H H' ∧ H' g = some (.lst (((ns.take i).map (up3 m)).map V.int))) ⟨same_new hg, upd_same⟩ (fun i H' _ h => (hL.mono h.1).sq) (fun i x H' hx h => ?_) (fun H1 h => ?_)
    · obtain ⟨n, rfl, hn⟩ := row_item hx
      refine ⟨rfl, iteT (B := True) ⟨.int n, rfl, _, _, rfl, rfl, .inl ⟨by decide, by decide⟩, .int m, rfl, _, _, rfl, rfl, ?_⟩⟩
      refine ⟨_, h.2, small1000 (by rw [List.length_map, List.length_map, List.length_take]; omega), same_upd2 h.1 hg, ?_⟩
      rw [upd_same, List.take_add_one, hn, List.map_append, List.map_append]
      rfl
    obtain ⟨s1, h1⟩ := h
    rw [take_all] at h1
    have hG1 : Lst H1 g (ns.map (up3 m)) := h1
    have hL1 := hL.mono s1
    clear h1 hg hL
    -- from twenty down
    refine ⟨.ref a, rfl, a, rfl, ⟨_, hL1.sq⟩, fun d hd => ?_⟩
    refine lc_list (K := K) (a := a) (xs := ns.map V.int) (fun i H' => Same H1 H' ∧ H' d = some (.lst (((ns.take i).map dn20).map V.int))) ⟨same_new hd, upd_same⟩ (fun i H' _ h => (hL1.mono h.1).sq) (fun i x H' hx h => ?_) (fun H2 h => ?_)
    · obtain ⟨n, rfl, hn⟩ := row_item hx
      refine ⟨rfl, iteT (B := True) ⟨.int n, rfl, _, _, rfl, rfl, ?_⟩⟩
      refine ⟨_, h.2, small1000 (by rw [List.length_map, List.length_map, List.length_take]; omega), same_upd2 h.1 hd, ?_⟩
      rw [upd_same, List.take_add_one, hn, List.map_append, List.map_append]
      rfl
    obtain ⟨s2, h2⟩ := h
    rw [take_all] at h2
    have hD2 : Lst H2 d (ns.map dn20) := h2
    have hL2 := hL1.mono s2
    have hG2 := hG1.mono s2
    have s02 := s1.trans s2
    clear h2 hd hL1 hG1 s1 s2
    -- the fewest and the most
    refine ⟨.ref g, rfl, .inl ⟨g, _, rfl, hG2, okG, depG, fun H3 t1 lo1 hi1 s3 ht1 hb1 => ?_⟩⟩
    refine ⟨.ref a, rfl, .inl ⟨a, ns, rfl, hL2.mono s3, ok, dep, fun H4 t2 lo hi s4 ht2 hb2 => ?_⟩⟩
    obtain ⟨rfl, rfl⟩ := hb1.uniq ((affU m).bd hb2)
    refine ⟨prD ((lo1 : Int), (hi1 : Int)), prD ((lo1 : Int), (hi1 : Int)), dp_prT (p := ((lo1 : Int), (hi1 : Int))) (SqT.of (s4 _ _ ht1)), dp_prT (p := ((lo1 : Int), (hi1 : Int))) (SqT.of ht2), shaped_pr _, shaped_pr _, _, rfl, itN (by rw [eqv_pr, decide_eq_true rfl]; decide) ?_⟩
    have s24 := s3.trans s4
    refine ⟨.ref d, rfl, .inl ⟨d, _, rfl, hD2.mono s24, okD, depD, fun H5 t3 lo3 hi3 s5 ht3 hb3 => ?_⟩⟩
    refine ⟨.ref a, rfl, .inl ⟨a, ns, rfl, hL2.mono (s24.trans s5), ok, dep, fun H6 t4 lo4 hi4 s6 ht4 hb4 => ?_⟩⟩
    obtain ⟨rfl, rfl⟩ := hb3.uniq (affD.bd hb4)
    refine ⟨prD ((lo3 : Int), (hi3 : Int)), prD ((lo3 : Int), (hi3 : Int)), dp_prT (p := ((lo3 : Int), (hi3 : Int))) (SqT.of (s6 _ _ ht3)), dp_prT (p := ((lo3 : Int), (hi3 : Int))) (SqT.of ht4), shaped_pr _, shaped_pr _, _, rfl, itN (by rw [eqv_pr, decide_eq_true rfl]; decide) ?_⟩
    have s26 := s24.trans (s5.trans s6)
    have hL6 := hL2.mono s26
    have hG6 := hG2.mono s26
    have hD6 := hD2.mono s26
    have s06 := s02.trans s26
    clear hL2 hG2 hD2 s3 s4 s5 s6 s24 s26 s02 ht1 ht2 ht3 ht4 hb1 hb2 hb3 hb4 depG depD dep
    -- ends of the great one
    refine ⟨.ref g, rfl, .inl ⟨g, _, rfl, hG6, okG, fun H7 o ys Fd s7 ho hO nw st => ?_⟩⟩
    refine ⟨.ref a, rfl, .inl ⟨a, ns, rfl, hL6.mono s7, ok, fun H8 o2 ys2 Fd2 s8 ho2 hO2 nw2 st2 => ?_⟩⟩
    have rows2 : Rows H8 ys2 (srt Fd2) := (Nws.mono (Same.lsts (hid_same H8 [o2])) nw2).rows
    have l2 : ys2.length = (srt Fd2).length := pd_len rows2
    have b2 := stl_len ok st2
    refine ⟨o2, rfl, ⟨_, SqL.of hO2⟩, fun D hD => ?_⟩
    refine lc_list (K := K) (a := o2) (xs := ys2) (fun j H' => Same H8 H' ∧ ∃ ws, H' D = some (.lst ws) ∧ Nws H8 (hid H' [D]) ws (((srt Fd2).take j).map (List.map (up3 m))))
      ⟨same_new hD, [], upd_same, .nil⟩ (fun j H' _ h => SqL.of (h.1 _ _ hO2)) (fun j x H9 hx h => ?_) (fun H9 h => ?_)
    · obtain ⟨s9, ws, hDw, rw9⟩ := h
      obtain ⟨rr, hrr, bb, rfl, hbb⟩ := pd_at rows2 hx
      have hj := (List.getElem?_eq_some_iff.mp hrr).1
      have lr : rr.length ≤ 4 := by
        obtain ⟨k, hk, _⟩ := (st2.2 rr).mp (mem_srt.mp (List.mem_of_getElem? hrr))
        have := hk.len
        omega
      have hbb9 := hbb.mono s9
      refine ⟨rfl, iteT (B := True) ⟨.ref bb, rfl, bb, rfl, ⟨_, hbb9.sq⟩, fun D3 hD3 => ?_⟩⟩
      refine lc_list (K := K) (a := bb) (xs := rr.map V.int) (fun i H' => Same H9 H' ∧ H' D3 = some (.lst (((rr.take i).map (up3 m)).map V.int))) ⟨same_new hD3, upd_same⟩ (fun i H' _ h => (hbb9.mono h.1).sq) (fun i x H' hx h => ?_) (fun H10 h => ?_)
      · obtain ⟨n, rfl, hn⟩ := row_item hx
        refine ⟨rfl, iteT (B := True) ⟨.int n, rfl, _, _, rfl, rfl, .inl ⟨by decide, by decide⟩, .int m, rfl, _, _, rfl, rfl, ?_⟩⟩
        refine ⟨_, h.2, small1000 (by rw [List.length_map, List.length_map, List.length_take]; omega), same_upd2 h.1 hD3, ?_⟩
        rw [upd_same, List.take_add_one, hn, List.map_append, List.map_append]
        rfl
      obtain ⟨s10, h10⟩ := h
      rw [take_all] at h10
      have n3 : D3 ≠ D := (ne_of_none hDw hD3).symm
      refine ⟨ws, s10 _ _ hDw, lineB (by rw [pd_len rw9, List.length_map, List.length_take]; omega), same_upd2 (s9.trans s10) hD, _, upd_same, ?_⟩
      rw [hid_upd (by simp), List.take_add_one, hrr, List.map_append]
      refine pd_app (Nws.mono (Same.lsts (hid_mono s10)) rw9) (.cons ⟨D3, rfl, ?_, s9.free hD3⟩ .nil)
      unfold Lst
      rw [hid_out (by simp [n3])]
      exact h10
    obtain ⟨s9, ws, hDw, rw9⟩ := h
    rw [l2, List.take_length] at rw9
    have eF := srt_up st2 st
    have s79 := s8.trans s9
    refine ⟨rowsD (srt Fd), rowsD ((srt Fd2).map (List.map (up3 m))), dp_rows (SqL.of (s79 _ _ hO)) (Nws.mono (Same.lsts s79) (Nws.mono (Same.lsts (hid_same H7 [o])) nw)).rows, dp_rows (SqL.of hDw) (Nws.mono (Same.lsts (hid_same H9 [D])) rw9).rows, shaped_rows _, shaped_rows _, _, rfl, itN (by rw [eqv_rows, decide_eq_true eF]; decide) ?_⟩
    have s69 := s7.trans s79
    have hL9 := hL6.mono s69
    have hG9 := hG6.mono s69
    have hD9 := hD6.mono s69
    have s09 := s06.trans s69
    clear hL6 hG6 hD6 s7 s8 s9 s79 s69 s06 hO ho nw st hO2 ho2 nw2 st2 rows2 l2 b2 hD hDw rw9 eF
    -- ends of the one from twenty down
    refine ⟨.ref d, rfl, .inl ⟨d, _, rfl, hD9, okD, fun H7 o ys Fd s7 ho hO nw st => ?_⟩⟩
    refine ⟨.ref a, rfl, .inl ⟨a, ns, rfl, hL9.mono s7, ok, fun H8 o2 ys2 Fd2 s8 ho2 hO2 nw2 st2 => ?_⟩⟩
    have rows2 : Rows H8 ys2 (srt Fd2) := (Nws.mono (Same.lsts (hid_same H8 [o2])) nw2).rows
    have l2 : ys2.length = (srt Fd2).length := pd_len rows2
    have b2 := stl_len ok st2
    refine ⟨o2, rfl, ⟨_, SqL.of hO2⟩, fun D hD => ?_⟩
    refine lc_list (K := K) (a := o2) (xs := ys2) (fun j H' => Same H8 H' ∧ ∃ ws, H' D = some (.lst ws) ∧ Nws H8 (hid H' [D]) ws (((srt Fd2).take j).map (List.map dn20)))
      ⟨same_new hD, [], upd_same, .nil⟩ (fun j H' _ h => SqL.of (h.1 _ _ hO2)) (fun j x HX hx h => ?_) (fun HX h => ?_)
    · obtain ⟨sX, ws, hDw, rwX⟩ := h
      obtain ⟨rr, hrr, bb, rfl, hbb⟩ := pd_at rows2 hx
      have hj := (List.getElem?_eq_some_iff.mp hrr).1
      have lr : rr.length ≤ 4 := by
        obtain ⟨k, hk, _⟩ := (st2.2 rr).mp (mem_srt.mp (List.mem_of_getElem? hrr))
        have := hk.len
        omega
      have hbbX := hbb.mono sX
      refine ⟨rfl, iteT (B := True) ⟨.ref bb, rfl, bb, rfl, ⟨_, hbbX.sq⟩, fun D3 hD3 => ?_⟩⟩
      refine lc_list (K := K) (a := bb) (xs := rr.map V.int) (fun i H' => Same HX H' ∧ H' D3 = some (.lst (((rr.take i).map dn20).map V.int))) ⟨same_new hD3, upd_same⟩ (fun i H' _ h => (hbbX.mono h.1).sq) (fun i x H' hx h => ?_) (fun HY h => ?_)
      · obtain ⟨n, rfl, hn⟩ := row_item hx
        refine ⟨rfl, iteT (B := True) ⟨.int n, rfl, _, _, rfl, rfl, ?_⟩⟩
        refine ⟨_, h.2, small1000 (by rw [List.length_map, List.length_map, List.length_take]; omega), same_upd2 h.1 hD3, ?_⟩
        rw [upd_same, List.take_add_one, hn, List.map_append, List.map_append]
        rfl
      obtain ⟨sY, hY⟩ := h
      rw [take_all] at hY
      have n3 : D3 ≠ D := (ne_of_none hDw hD3).symm
      refine ⟨ws, sY _ _ hDw, lineB (by rw [pd_len rwX, List.length_map, List.length_take]; omega), same_upd2 (sX.trans sY) hD, _, upd_same, ?_⟩
      rw [hid_upd (by simp), List.take_add_one, hrr, List.map_append]
      refine pd_app (Nws.mono (Same.lsts (hid_mono sY)) rwX) (.cons ⟨D3, rfl, ?_, sX.free hD3⟩ .nil)
      unfold Lst
      rw [hid_out (by simp [n3])]
      exact hY
    obtain ⟨sX, ws, hDw, rwX⟩ := h
    rw [l2, List.take_length] at rwX
    refine ⟨D, ws, (srt Fd2).map (List.map dn20), _, rfl, SqL.of hDw, Nws.mono (Same.lsts (hid_same _ _)) rwX, fun v4 r4 h4 => h4.row, fun du2 dp2 hdp2 pr2 => ?_⟩
    have sZ := same_new (o := .lst du2) hdp2
    have eF := srt_dn st2 st
    have s7Z := (s8.trans sX).trans sZ
    refine ⟨rowsD (srt Fd), rowsD (srt ((srt Fd2).map (List.map dn20))), dp_rows (SqL.of (s7Z _ _ hO)) (Nws.mono (Same.lsts s7Z) (Nws.mono (Same.lsts (hid_same H7 [o])) nw)).rows, dp_rows (SqL.of upd_same) (Nws.mono (Same.lsts sZ) pr2).rows, shaped_rows _, shaped_rows _, _, rfl, itN (by rw [eqv_rows, decide_eq_true eF]; decide) ?_⟩
    have s9Z := s7.trans s7Z
    generalize upd HX dp2 (.lst du2) = HZ at s9Z
    have hLZ := hL9.mono s9Z
    have hGZ := hG9.mono s9Z
    have hDZ := hD9.mono s9Z
    have s0Z := s09.trans s9Z
    clear hL9 hG9 hD9 s7 s8 sX sZ s7Z s9Z s09 hO ho nw st hO2 ho2 nw2 st2 rows2 l2 b2 hD hDw rwX eF hdp2 pr2
    -- the answers
    refine ⟨.ref a, rfl, .inl ⟨a, ns, rfl, hLZ, ok, fun K1 x1 A1 z1 nx1 an1 _ af1 => ?_⟩⟩
    refine ⟨.ref g, rfl, .inl ⟨g, _, rfl, hGZ.mono z1, okG, fun K2 x2 A2 z2 nx2 an2 _ af2 => ?_⟩⟩
    refine ⟨.ref d, rfl, .inl ⟨d, _, rfl, hDZ.mono (z1.trans z2), okD, fun K3 x3 A3 z3 nx3 an3 _ af3 => ?_⟩⟩
    have al1 := (an1.mono z2).mono z3
    have al2 := an2.mono z3
    have z123 := (z1.trans z2).trans z3
    have hL3 := hLZ.mono z123
    have hG3 := hGZ.mono z123
    have hD3 := hDZ.mono z123
    have s03 := s0Z.trans z123
    obtain ⟨t1, ty1, ka1, kn1, _⟩ := isi_ans I cl_Alike cl_Never al1
    obtain ⟨t2, ty2, ka2, kn2, _⟩ := isi_ans I cl_Alike cl_Never al2
    obtain ⟨t3, ty3, ka3, kn3, _⟩ := isi_ans I cl_Alike cl_Never an3
    refine ⟨.ref x1, .ref x2, .ref x3, rfl, ?_⟩
    refine ⟨.ref x1, rfl, _, _, _, _, A1.isNone, rfl, .own _, ty1, kn1, _, rfl, ?_⟩
    rcases (affU m).ans af1 af2 with ⟨rfl, rfl⟩ | ⟨p1, p2, rfl, rfl, l12⟩
    · have e3 : A3 = none := by
        rcases affD.ans af1 af3 with ⟨_, e⟩ | ⟨_, _, e, _⟩
        · exact e
        · cases e
      subst e3
      refine iteT (B := _) ?_
      refine ⟨.ref x2, rfl, _, _, _, _, true, rfl, .own _, ty2, kn2, true, rfl, iteT ?_⟩
      refine ⟨.ref x3, rfl, _, _, _, _, true, rfl, .own _, ty3, kn3, true, rfl, iteT ?_⟩
      refine ⟨.ref x1, rfl, x1, none, rfl, al1, .ref g, rfl, g, _, rfl, al1, hG3, okG, fun H' s' => ?_⟩
      have e : showV none (ns.map (up3 m)) = true := AnsFor.show (A := none) ((affU m).noAl.mpr af1)
      rw [e]
      exact ⟨true, true, rfl, rfl, q _ (s03.trans s')⟩
    · obtain ⟨p3, rfl, l13⟩ : ∃ p3, A3 = some p3 ∧ p1.length = p3.length := by
        rcases affD.ans af1 af3 with ⟨e, _⟩ | ⟨u1, u3, e1, e2, l⟩
        · cases e
        · cases e1
          exact ⟨u3, e2, l⟩
      refine iteF (A := _) ?_
      refine ⟨.ref x2, rfl, _, _, _, _, true, rfl, .own _, ty2, ka2, true, rfl, iteF (A := _) ?_⟩
      refine ⟨.ref x3, rfl, _, _, _, _, true, rfl, .own _, ty3, ka3, true, rfl, iteF (A := _) ?_⟩
      obtain ⟨g1, w1, ⟨dx1, hx1⟩, hg1, pr1⟩ := id al1
      obtain ⟨g2, w2, ⟨dx2, hx2⟩, hg2, pr2⟩ := id al2
      obtain ⟨g3, w3, ⟨dx3, hx3⟩, hg3, pr3⟩ := id an3
      refine ⟨.ref x2, rfl, x2, C_Alike, dx2, _, _, rfl, hx2, cl_Alike.cl, nE, alF_ev g2, g2, w2, rfl, .inl (SqL.of hg2), .ref x1, rfl, x1, C_Alike, dx1, _, _, rfl, hx1, cl_Alike.cl, nE, alF_ev g1, g1, w1, rfl, .inl (SqL.of hg1), rfl, _, rfl, itN (by rw [dec_int, pd_len pr2, pd_len pr1, l12]; simp) ?_⟩
      refine ⟨.ref x3, rfl, x3, C_Alike, dx3, _, _, rfl, hx3, cl_Alike.cl, nE, alF_ev g3, g3, w3, rfl, .inl (SqL.of hg3), .ref x1, rfl, x1, C_Alike, dx1, _, _, rfl, hx1, cl_Alike.cl, nE, alF_ev g1, g1, w1, rfl, .inl (SqL.of hg1), rfl, _, rfl, itN (by rw [dec_int, pd_len pr3, pd_len pr1, l13]; simp) ?_⟩
      clear hx1 hx2 hx3 hg1 hg2 hg3 pr1 pr2 pr3
      -- each of them at each row
      have v1 : ∀ f, Aff f → showV (some p1) (ns.map f) = true := fun f af => (af.show ns p1).trans (AnsFor.show (A := some p1) af1)
      have v2 : ∀ f, Aff f → showV (some p2) (ns.map f) = true := fun f af => (af.show ns p2).trans (((affU m).show ns p2).symm.trans (AnsFor.show (A := some p2) af2))
      have v3 : ∀ f, Aff f → showV (some p3) (ns.map f) = true := fun f af => (af.show ns p3).trans ((affD.show ns p3).symm.trans (AnsFor.show (A := some p3) af3))
      have idA : Aff fun x => x := ⟨fun _ _ h => h, fun _ _ _ => rfl, fun _ _ => Iff.rfl⟩
      have idm : ns.map (fun x => x) = ns := List.map_id' ns
      have w1 := idm ▸ v1 _ idA
      have w2 := idm ▸ v2 _ idA
      have w3 := idm ▸ v3 _ idA
      refine ⟨.ref a, rfl, .ref g, rfl, .ref d, rfl, (by show 3 ≤ sizeLine; decide), fun T hT => ?_⟩
      have sT := same_new (o := .tup [.ref a, .ref g, .ref d]) hT
      have hTT : (upd K3 T (.tup [.ref a, .ref g, .ref d])) T = some (.tup [.ref a, .ref g, .ref d]) := upd_same
      have bl1 := al1.mono sT
      have bl2 := al2.mono sT
      have bl3 := an3.mono sT
      have three : ∀ v ∈ [V.ref a, .ref g, .ref d], ∃ b rr, v = .ref b ∧ Lst (upd K3 T (.tup [.ref a, .ref g, .ref d])) b rr ∧ Small rr ∧ showV (some p1) rr = true ∧ showV (some p2) rr = true ∧ showV (some p3) rr = true := fun v hv => by
        simp only [List.mem_cons, List.not_mem_nil, or_false] at hv
        rcases hv with rfl | rfl | rfl
        · exact ⟨a, _, rfl, hL3.mono sT, ok, w1, w2, w3⟩
        · exact ⟨g, _, rfl, hG3.mono sT, okG, v1 _ (affU m), v2 _ (affU m), v3 _ (affU m)⟩
        · exact ⟨d, _, rfl, hD3.mono sT, okD, v1 _ affD, v2 _ affD, v3 _ affD⟩
      have s0T := s03.trans sT
      generalize upd K3 T (.tup [.ref a, .ref g, .ref d]) = KT at hTT bl1 bl2 bl3 three s0T
      refine ⟨T, rfl, ⟨_, SqT.of hTT⟩, for_tup (K := K) (a := T) (xs := [V.ref a, .ref g, .ref d])
        (fun _ σ H' => ∃ y7 y8 y9 y10, σ = [some (.ref a), some (.int m), some (.ref g), some (.ref d), some (.ref x1), some (.ref x2), some (.ref x3), y7, y8, y9, y10] ∧ Same KT H')
        ⟨_, _, _, _, rfl, Same.refl _⟩ (fun k σ H' _ h => ?_) (fun k x σ HA hx h => ?_) (fun σ HA h => ?_)⟩
      · obtain ⟨_, _, _, _, _, sA⟩ := h
        exact SqT.of (sA _ _ hTT)
      · obtain ⟨y7, y8, y9, y10, rfl, sA⟩ := h
        obtain ⟨b, rr, rfl, hb, okb, u1, u2, u3⟩ := three x (List.mem_of_getElem? hx)
        refine ⟨.ref x1, rfl, .ref x2, rfl, .ref x3, rfl, (by show 3 ≤ sizeLine; decide), fun T2 hT2 => ?_⟩
        have sB := same_new (o := .tup [.ref x1, .ref x2, .ref x3]) hT2
        have hTB : (upd HA T2 (.tup [.ref x1, .ref x2, .ref x3])) T2 = some (.tup [.ref x1, .ref x2, .ref x3]) := upd_same
        generalize upd HA T2 (.tup [.ref x1, .ref x2, .ref x3]) = HB at sB hTB
        have sAB := sA.trans sB
        have all3 : ∀ v ∈ [V.ref x1, .ref x2, .ref x3], ∃ y A, v = .ref y ∧ IsAns C_Alike C_Never HB y A ∧ showV A rr = true := fun v hv => by
          simp only [List.mem_cons, List.not_mem_nil, or_false] at hv
          rcases hv with rfl | rfl | rfl
          · exact ⟨x1, _, rfl, bl1.mono sAB, u1⟩
          · exact ⟨x2, _, rfl, bl2.mono sAB, u2⟩
          · exact ⟨x3, _, rfl, bl3.mono sAB, u3⟩
        have hbB := hb.mono sAB
        refine ⟨T2, rfl, ⟨_, SqT.of hTB⟩, fun D hD => ?_⟩
        refine lc_tup (K := K) (a := T2) (xs := [V.ref x1, .ref x2, .ref x3]) (fun i H' => Same HB H' ∧ H' D = some (.lst ((List.replicate i true).map V.bl))) ⟨same_new hD, upd_same⟩ (fun i H' _ h => SqT.of (h.1 _ _ hTB)) (fun i x H' hx h => ?_) (fun HC h => ?_)
        · obtain ⟨y, A, rfl, an, sh⟩ := all3 x (List.mem_of_getElem? hx)
          have hi : i < 3 := (List.getElem?_eq_some_iff.mp hx).1
          refine ⟨rfl, iteT (B := True) ⟨.ref y, rfl, y, A, rfl, an.mono h.1, .ref b, rfl, b, rr, rfl, an.mono h.1, hbB.mono h.1, okb, fun H2 s2 => ?_⟩⟩
          rw [sh]
          refine ⟨_, s2 _ _ h.2, small1000 (by rw [List.length_map, List.length_replicate]; omega), same_upd2 (h.1.trans s2) hD, ?_⟩
          rw [upd_same, List.replicate_succ', List.map_append]
          rfl
        · obtain ⟨sC, hDC⟩ := h
          refine ⟨(by show 1 ≤ sizeLine; decide), fun l hl => ?_⟩
          have sl := same_new (o := .lst [.bl true]) hl
          have hll : (upd HC l (.lst [.bl true])) l = some (.lst [.bl true]) := upd_same
          generalize upd HC l (.lst [.bl true]) = HD at sl hll
          refine ⟨l, 3, _, rfl, rfl, hll, by decide, by decide, (by show 1 * 3 ≤ sizeLine; decide), fun l2 hl2 => ?_⟩
          have s2 : Same HD (upd HD l2 (.lst ([true, true, true].map V.bl))) := same_new hl2
          refine ⟨boolsD [true, true, true], boolsD [true, true, true], dp_bools (s2 _ _ (sl _ _ hDC)), dp_bools upd_same, shaped_bools _, shaped_bools _, _, rfl, itN (nq_bools _) ?_⟩
          exact ⟨_, _, _, _, rfl, sAB.trans ((sC.trans sl).trans s2)⟩
      · obtain ⟨y7, y8, y9, y10, rfl, sA⟩ := h
        exact q HA (s0T.trans sA)
end
end EG

/-! _law_wholes_right. -/
namespace EG
open PySem PySem.Spec PyProof.Rows L2
theorem le_line {n : Nat} (h : n ≤ 16777216) : n ≤ sizeLine := by unfold sizeLine; omega
theorem lt_line {n : Nat} (h : n < 16777216) : n < sizeLine := by unfold sizeLine; omega
def Ints (ts : List V) : Prop := ∀ v ∈ ts, ∃ n : Int, v = .int n
theorem Ints.app {ts us : List V} (h : Ints ts) (k : Ints us) : Ints (ts ++ us) := fun v hv => (List.mem_append.mp hv).elim (h v) (k v)
theorem ints_map (ns : List Int) : Ints (ns.map V.int) := fun v hv => by
  obtain ⟨n, _, rfl⟩ := List.mem_map.mp hv
  exact ⟨n, rfl⟩
section
variable {P : Program} {w : World} {K : PySem.W.Frag} {mg : Str → Option Value} {base : Heap}
def sp_wholes : Sp := fun vs H Q _ => ∃ (a : Addr) (ns : Rw), vs = [.ref a] ∧ Lst H a ns ∧ RowOk ns 4 6 ∧ ∀ H', Same H H' → Q (.bl true) H'
abbrev N_l_wholes_right : List Str := ["_law_row", "_law_told", "_law_some", "_law_end", "_law_pair", "_law_found", "_law_number"]
theorem ok_wholes {f CB CE C_Alike C_Never C_Answer : Addr} {fd : FuncData} (F : Fun K "_law_wholes_right" "_law_wholes_right" s_l_wholes_right f fd) (B : Blt mg) (g_Alike : mg "Alike" = some (.ref C_Alike))
    (cl_Alike : ClF K C_Alike) (cl_Never : ClF K C_Never) (I : IsiF K C_Alike C_Never C_Answer) (nE : NoAttr K C_Alike "evenings") (c_l_whole : Cal CX0 P w K mg base "_law_whole" ["_law_number"] 1 (sp_l_whole K))
    (c_fewest_most : Cal (L2.CX P w) P w K mg base "fewest_most" ["row"] 93 (sp_few6 K CB)) (c_ends : Cal (L2.CX P w) P w K mg base "ends" ["row"] 3 (sp_endsX K CB)) (c_alike : Cal (L2.CX P w) P w K mg base "alike" ["row"] 3 (sp_alike6 K CB C_Alike C_Never))
    (c_evenings : Cal (L2.CX P w) P w K mg base "evenings" ["row"] 3 (sp_evenings6 K CB)) (c_evened : Cal (L2.CX P w) P w K mg base "evened" ["row", "evening"] 4 (sp_evenedX K CB CE)) (c_fall : Cal (L2.CX P w) P w K mg base "fall" ["row", "evening"] 4 (sp_fallX K CB CE)) :
    FnOk P w K mg base CX0 94 f fd ["_law_row"] sp_wholes := by
  refine F.ok sc_l_wholes_right (fun vs H Q E h => ?_) (fun cdv A outer s H vs Q E hr h => ?_)
  · obtain ⟨a, ns, rfl, _⟩ := h
    rfl
  · obtain ⟨a, ns, rfl, hL, ok4, q⟩ := h
    refine ⟨_, (pss_cons (ps_par (i := 1) (j := 2) rfl sc_l_wholes_right.nd rfl rfl (by decide) rfl rfl (pa_cons (pe_callTy (r := rListOf K) call_list_of (by rfl) B.list PyProof.Rows.boot_list (pa_cons (pe_calX (E := fun _ _ _ => False) c_fewest_most hr passF (by rfl) (pa_cons (pv 0) pa_nil)) pa_nil)) (pa_cons (pe_calX (E := fun _ _ _ => False) c_evenings hr passF (by rfl) (pa_cons (pv 0) pa_nil)) pa_nil)) (by rfl))
    (pss_cons (ps_for PassesOwn.never rfl (pi_list (pe_calX (E := fun _ _ _ => False) c_ends hr passF (by rfl) (pa_cons (pv 0) pa_nil))) (pg_name (i := 3) sc_l_wholes_right.nd rfl (.inl rfl))
    (pss_one (ps_set (i := 1) sc_l_wholes_right.nd rfl (.inl rfl) (pe_op op_cat (pv 1) (pv 3)))))
    (pss_cons (ps_for PassesOwn.never rfl (pi_list (pv 2)) (pg_name (i := 4) sc_l_wholes_right.nd rfl (.inl rfl))
    (pss_one (ps_set (i := 1) sc_l_wholes_right.nd rfl (.inl rfl) (pe_op op_cat (pe_op op_cat (pv 1) (pe_lst (pa_cons (pe_ix (r := rIxT K) ix_tup (pv 4) pe_int (fun _ _ => rfl)) (pa_cons (pe_ix (r := rIxT K) ix_tup (pv 4) pe_int (fun _ _ => rfl)) (pa_cons (pe_calX (E := fun _ _ _ => False) c_fall hr passF (by rfl) (pa_cons (pv 0) (pa_cons (pv 4) pa_nil))) pa_nil))))) (pe_calX (E := fun _ _ _ => False) c_evened hr passF (by rfl) (pa_cons (pv 0) (pa_cons (pv 4) pa_nil)))))))
    (pss_cons (ps_set (i := 5) sc_l_wholes_right.nd rfl (.inl rfl) (pe_calX (E := fun _ _ _ => False) c_alike hr passF (by rfl) (pa_cons (pv 0) pa_nil)))
    (pss_cons (ps_if (pt_val (pe_callB (r := rIsi K) call_isi (by rfl) B.isi PyProof.Rows.boot_isinstance (pa_cons (pv 5) (pa_cons (pe_glob (v := .ref C_Alike) (by rfl) g_Alike rfl) pa_nil))))
    (pss_one (ps_for PassesOwn.never rfl (pi_list (pe_fld (pv 5) rfl)) (pg_name (i := 4) sc_l_wholes_right.nd rfl (.inl rfl))
      (pss_one (ps_set (i := 1) sc_l_wholes_right.nd rfl (.inl rfl) (pe_op op_cat (pv 1) (pe_lst (pa_cons (pe_ix (r := rIxT K) ix_tup (pv 4) pe_int (fun _ _ => rfl)) (pa_cons (pe_ix (r := rIxT K) ix_tup (pv 4) pe_int (fun _ _ => rfl)) pa_nil))))))))
    pss_nil)
    (pss_one (ps_ret (pe_callB (r := rAll K) (cr_all rfl) (by rfl) B.all PyProof.Rows.boot_all (pa_cons (pe_lc (own := [("_law_number", 6)]) (g := gName 6) (tt := tYes) rfl sc_l_wholes_right.nd (pi_list (pv 1)) (blkOk_by (N := N_l_wholes_right) (sc := defScope s_l_wholes_right) (by decide +kernel)) (fun _ _ _ _ _ => (pg_name (i := 6) sc_l_wholes_right.nd rfl (.inl rfl))) (fun _ _ _ _ _ => pts_nil) (fun _ _ _ _ _ => (pe_cal c_l_whole hr (by rfl) (pa_cons (pv 6) pa_nil)))) pa_nil))))))))), ?_⟩
    have n4 : ns.length ≤ 4 := by have := ok4.2.1; omega
    have ok : Small ns := ok4.small (by decide) (by decide)
    have okR : RowOk ns 12 1000000 := ⟨ok4.1, by omega, fun x hx => ⟨(ok4.2.2 x hx).1, by have := (ok4.2.2 x hx).2; omega⟩⟩
    have dep := dep12 (⟨ok4.1, by omega, fun x hx => ⟨(ok4.2.2 x hx).1, by have := (ok4.2.2 x hx).2; omega⟩⟩ : RowOk ns 5 12)
    refine ⟨.ref a, rfl, .inl ⟨a, ns, rfl, hL, ok, dep, fun H1 t lo hi s1 ht _ => ⟨t, _, rfl, .inr (SqT.of ht), fun l hl => ?_⟩⟩⟩
    have s2 := same_new (o := .lst [.int (lo : Int), .int (hi : Int)]) hl
    have hl2 : (upd H1 l (.lst [.int (lo : Int), .int (hi : Int)])) l = some (.lst [.int (lo : Int), .int (hi : Int)]) := upd_same
    have s02 := s1.trans s2
    have hL2 := hL.mono s02
    generalize upd H1 l (.lst [.int (lo : Int), .int (hi : Int)]) = H2 at s2 hl2 s02 hL2
    refine ⟨.ref a, rfl, .inl ⟨a, ns, rfl, hL2, okR, fun H3 p ws s3 hp hws pr => ⟨_, _, rfl, ?_⟩⟩⟩
    -- the ends
    refine ⟨.ref a, rfl, .inl ⟨a, ns, rfl, hL2.mono s3, ok, fun H4 o ys Fd s4 ho hO nw st => ?_⟩⟩
    have rows4 : Rows H4 ys (srt Fd) := (Nws.mono (Same.lsts (hid_same H4 [o])) nw).rows
    have ly : ys.length = (srt Fd).length := pd_len rows4
    have by4 := stl_len ok st
    have s34 := s3.trans s4
    refine ⟨o, rfl, ⟨_, SqL.of hO⟩, for_list (K := K) (a := o) (xs := ys)
      (fun i σ H' => ∃ (L : Addr) (ts : List V) (y3 y4 y5 y6 : Option V), σ = [some (.ref a), some (.ref L), some (.ref p), y3, y4, y5, y6] ∧ Same H4 H' ∧ H' L = some (.lst ts) ∧ ts.length ≤ 2 + 4 * i ∧ Ints ts)
      ⟨l, _, _, _, _, _, rfl, Same.refl _, s34 _ _ hl2, Nat.le_refl _, ints_map [(lo : Int), (hi : Int)]⟩ (fun i σ H' _ h => ?_) (fun i x σ H5 hx h => ?_) (fun σ H5 h => ?_)⟩
    · obtain ⟨_, _, _, _, _, _, _, s5, _⟩ := h
      exact SqL.of (s5 _ _ hO)
    · obtain ⟨L, ts, y3, y4, y5, y6, rfl, s5, hL5, lt5, it5⟩ := h
      obtain ⟨rr, hrr, bb, rfl, hbb⟩ := pd_at rows4 hx
      have hi := (List.getElem?_eq_some_iff.mp hrr).1
      have lr : rr.length ≤ 4 := by
        obtain ⟨k, hk, _⟩ := (st.2 rr).mp (mem_srt.mp (List.mem_of_getElem? hrr))
        have := hk.len
        omega
      refine ⟨.ref L, rfl, .ref bb, rfl, L, bb, ts, rr.map V.int, rfl, rfl, hL5, (hbb.mono s5), le_line (by rw [List.length_map]; omega), fun M hM => ?_⟩
      exact ⟨M, _, _, _, _, _, rfl, s5.trans (same_new hM), upd_same, by rw [List.length_append, List.length_map]; omega, it5.app (ints_map rr)⟩
    obtain ⟨L, ts, y3, y4, y5, y6, rfl, s5, hL5, lt5, it5⟩ := h
    rw [ly] at lt5
    have s45 := s34.trans s5
    have hp5 : H5 p = some (.lst ws) := (s4.trans s5) _ _ hws
    have pr5 := pr.mono (Same.tups (s4.trans s5))
    have hLa5 := hL2.mono s45
    have s05 := s02.trans s45
    clear hL hL2 hl hl2 ht s1 s2 s02 s3 s4 s5 s34 s45 hp hws pr nw rows4 hO ho ly st
    -- the evenings
    have lw : ws.length ≤ 144 := by rw [pd_len pr5]; exact evs_len okR.len12
    refine ⟨.ref p, rfl, p, rfl, ⟨_, SqL.of hp5⟩, for_list (K := K) (a := p) (xs := ws)
      (fun i σ H' => ∃ (L : Addr) (ts : List V) (y3 y4 y5 y6 : Option V), σ = [some (.ref a), some (.ref L), some (.ref p), y3, y4, y5, y6] ∧ Same H5 H' ∧ H' L = some (.lst ts) ∧ ts.length ≤ 16336406 + 7 * i ∧ Ints ts)
      ⟨L, ts, _, _, _, _, rfl, Same.refl _, hL5, by omega, it5⟩ (fun i σ H' _ h => ?_) (fun i x σ H6 hx h => ?_) (fun σ H6 h => ?_)⟩
    · obtain ⟨_, _, _, _, _, _, _, s5, _⟩ := h
      exact SqL.of (s5 _ _ hp5)
    · obtain ⟨L, ts, y3, y4, y5, y6, rfl, s6, hL6, lt6, it6⟩ := h
      obtain ⟨pp, hpp, e, rfl, he⟩ := prs_at pr5 hx
      have hmem := List.mem_of_getElem? hpp
      have hi := (List.getElem?_eq_some_iff.mp hx).1
      have he6 := s6 _ _ he
      have hLa6 := hLa5.mono s6
      refine ⟨.ref L, rfl, .ref e, rfl, e, _, 0, .int pp.1, rfl, rfl, SqT.of he6, rfl, .ref e, rfl, e, _, 1, .int pp.2, rfl, rfl, SqT.of he6, rfl, ?_⟩
      refine ⟨.ref a, rfl, .ref e, rfl, .inl ⟨a, e, ns, pp, rfl, hLa6, okR, he6, hmem, fun H7 s7 => ?_⟩⟩
      refine ⟨(by show 3 ≤ sizeLine; decide), fun M hM => ?_⟩
      have s8 := same_new (o := .lst [.int pp.1, .int pp.2, .int (fallP ns pp)]) hM
      have hM8 : (upd H7 M (.lst [.int pp.1, .int pp.2, .int (fallP ns pp)])) M = some (.lst [.int pp.1, .int pp.2, .int (fallP ns pp)]) := upd_same
      generalize upd H7 M (.lst [.int pp.1, .int pp.2, .int (fallP ns pp)]) = H8 at s8 hM8
      have s78 := s7.trans s8
      refine ⟨L, M, ts, _, rfl, rfl, s78 _ _ hL6, hM8, le_line (by show ts.length + 3 ≤ _; omega), fun M2 hM2 => ?_⟩
      have s9 := same_new (o := .lst (ts ++ [.int pp.1, .int pp.2, .int (fallP ns pp)])) hM2
      have hM9 : (upd H8 M2 (.lst (ts ++ [.int pp.1, .int pp.2, .int (fallP ns pp)]))) M2 = some (.lst (ts ++ [.int pp.1, .int pp.2, .int (fallP ns pp)])) := upd_same
      generalize upd H8 M2 (.lst (ts ++ [.int pp.1, .int pp.2, .int (fallP ns pp)])) = H9 at s9 hM9
      have s79 := s78.trans s9
      refine ⟨.ref a, rfl, .ref e, rfl, .inl ⟨a, e, ns, pp, rfl, hLa6.mono s79, okR, s79 _ _ he6, hmem, fun H10 o s10 ho hO => ?_⟩⟩
      have lb : (behP ns pp).length = ns.length := behP_length ns pp
      refine ⟨M2, o, _, _, rfl, rfl, s10 _ _ hM9, hO, le_line (by rw [List.length_append, List.length_map, lb]; show ts.length + 3 + ns.length ≤ _; omega), fun M3 hM3 => ?_⟩
      exact ⟨M3, _, _, _, _, _, rfl, ((s6.trans s79).trans s10).trans (same_new hM3), upd_same, by rw [List.length_append, List.length_append, List.length_map, lb]; show ts.length + 3 + ns.length ≤ _; omega, (it6.app (ints_map [pp.1, pp.2, fallP ns pp])).app (ints_map _)⟩
    obtain ⟨L, ts, y3, y4, y5, y6, rfl, s6, hL6, lt6, it6⟩ := h
    have hLa6 := hLa5.mono s6
    have s06 := s05.trans s6
    -- the answer
    refine ⟨.ref a, rfl, .inl ⟨a, ns, rfl, hLa6, ok, fun H7 x A s7 nx an _ af => ?_⟩⟩
    have s07 := s06.trans s7
    have hL7 := s7 _ _ hL6
    obtain ⟨t1, ty1, ka1, _, _⟩ := isi_ans I cl_Alike cl_Never an
    refine ⟨.ref x, rfl, _, _, _, _, A.isSome, rfl, .own _, ty1, ka1, _, rfl, ?_⟩
    cases A with
    | none =>
      refine iteF (A := _) ?_
      refine ⟨.ref L, rfl, L, rfl, ⟨_, SqL.of hL7⟩, fun D hD => ?_⟩
      refine lc_list (K := K) (a := L) (xs := ts) (fun i H' => Same H7 H' ∧ H' D = some (.lst ((List.replicate i true).map V.bl))) ⟨same_new hD, upd_same⟩ (fun i H' _ h => SqL.of (h.1 _ _ hL7)) (fun i x H' hx h => ?_) (fun H' h => ?_)
      · obtain ⟨n, rfl⟩ := it6 x (List.mem_of_getElem? hx)
        have hi := (List.getElem?_eq_some_iff.mp hx).1
        refine ⟨rfl, iteT (B := True) ⟨.int n, rfl, .int n, true, rfl, whole_int n, ?_⟩⟩
        refine ⟨_, h.2, lt_line (by rw [List.length_map, List.length_replicate]; omega), same_upd2 h.1 hD, ?_⟩
        rw [upd_same, List.replicate_succ', List.map_append]
        rfl
      · refine ⟨D, List.replicate ts.length true, rfl, SqL.of h.2, ?_⟩
        rw [all_rep]
        exact q _ (s07.trans h.1)
    | some ps =>
      refine iteT (B := _) ?_
      obtain ⟨g, wv, ⟨dx, hx⟩, hg, prg⟩ := an
      have lps : ps.length < 91 := by
        obtain ⟨r, h1, _⟩ := af
        exact dep _ _ (rbeh_rch _ rfl h1)
      have lwv : wv.length = ps.length := pd_len prg
      refine ⟨.ref x, rfl, x, C_Alike, dx, _, _, rfl, hx, cl_Alike.cl, nE, alF_ev g, g, rfl, ⟨_, SqL.of hg⟩, for_list (K := K) (a := g) (xs := wv)
        (fun i σ H' => ∃ (L : Addr) (ts : List V) (y3 y4 y6 : Option V), σ = [some (.ref a), some (.ref L), some (.ref p), y3, y4, some (.ref x), y6] ∧ Same H7 H' ∧ H' L = some (.lst ts) ∧ ts.length ≤ 16337414 + 2 * i ∧ Ints ts)
        ⟨L, ts, _, _, _, rfl, Same.refl _, hL7, by omega, it6⟩ (fun i σ H' _ h => ?_) (fun i z σ H8 hz h => ?_) (fun σ H8 h => ?_)⟩
      · obtain ⟨_, _, _, _, _, _, s8, _⟩ := h
        exact SqL.of (s8 _ _ hg)
      · obtain ⟨L, ts, y3, y4, y6, rfl, s8, hL8, lt8, it8⟩ := h
        obtain ⟨pp, hpp, e, rfl, he⟩ := prs_at prg hz
        have hi := (List.getElem?_eq_some_iff.mp hz).1
        have he8 := s8 _ _ he
        refine ⟨.ref L, rfl, .ref e, rfl, e, _, 0, .int pp.1, rfl, rfl, SqT.of he8, rfl, .ref e, rfl, e, _, 1, .int pp.2, rfl, rfl, SqT.of he8, rfl, (by show 2 ≤ sizeLine; decide), fun M hM => ?_⟩
        have s9 := same_new (o := .lst [.int pp.1, .int pp.2]) hM
        have hM9 : (upd H8 M (.lst [.int pp.1, .int pp.2])) M = some (.lst [.int pp.1, .int pp.2]) := upd_same
        generalize upd H8 M (.lst [.int pp.1, .int pp.2]) = H9 at s9 hM9
        refine ⟨L, M, ts, _, rfl, rfl, s9 _ _ hL8, hM9, le_line (by show ts.length + 2 ≤ _; omega), fun M2 hM2 => ?_⟩
        exact ⟨M2, _, _, _, _, rfl, (s8.trans s9).trans (same_new hM2), upd_same, by rw [List.length_append]; show ts.length + 2 ≤ _; omega, it8.app (ints_map [pp.1, pp.2])⟩
      · obtain ⟨L, ts, y3, y4, y6, rfl, s8, hL8, lt8, it8⟩ := h
        refine ⟨.ref L, rfl, L, rfl, ⟨_, SqL.of hL8⟩, fun D hD => ?_⟩
        refine lc_list (K := K) (a := L) (xs := ts) (fun i H' => Same H8 H' ∧ H' D = some (.lst ((List.replicate i true).map V.bl))) ⟨same_new hD, upd_same⟩ (fun i H' _ h => SqL.of (h.1 _ _ hL8)) (fun i x H' hx h => ?_) (fun H' h => ?_)
        · obtain ⟨n, rfl⟩ := it8 x (List.mem_of_getElem? hx)
          have hi := (List.getElem?_eq_some_iff.mp hx).1
          refine ⟨rfl, iteT (B := True) ⟨.int n, rfl, .int n, true, rfl, whole_int n, ?_⟩⟩
          refine ⟨_, h.2, lt_line (by rw [List.length_map, List.length_replicate]; omega), same_upd2 h.1 hD, ?_⟩
          rw [upd_same, List.replicate_succ', List.map_append]
          rfl
        · refine ⟨D, List.replicate ts.length true, rfl, SqL.of h.2, ?_⟩
          rw [all_rep]
          exact q _ ((s07.trans s8).trans h.1)
end
end EG

/-! Which pair stands at a value. -/
namespace EG
open PySem L2
open Classical in
noncomputable def kOf (H : Hp) (x : V) : Pr := if h : ∃ p, IsP H x p then h.choose else (0, 0)
theorem IsP.inj {H : Hp} {x : V} {p q : Pr} (h : IsP H x p) (h' : IsP H x q) : p = q := by
  obtain ⟨t, rfl, e⟩ := h
  obtain ⟨t', e2, e3⟩ := h'
  cases e2
  rw [e] at e3
  have e4 := HO.tup.inj (Option.some.inj e3)
  have e5 := V.int.inj (List.cons.inj e4).1
  have e6 := V.int.inj (List.cons.inj (List.cons.inj e4).2).1
  exact Prod.ext e5 e6
theorem kOf_eq {H : Hp} {x : V} {p : Pr} (h : IsP H x p) : kOf H x = p := by
  unfold kOf
  rw [dif_pos ⟨p, h⟩]
  exact IsP.inj (Exists.choose_spec (⟨p, h⟩ : ∃ p, IsP H x p)) h
theorem prs_kOf {H : Hp} : ∀ {vs : List V} {ps : List Pr}, Prs H vs ps → vs.map (kOf H) = ps
  | _, _, .nil => rfl
  | _, _, .cons r t => by rw [List.map_cons, kOf_eq r, prs_kOf t]
theorem prs_of {H : Hp} : ∀ {vs : List V}, (∀ v ∈ vs, ∃ p, IsP H v p) → Prs H vs (vs.map (kOf H))
  | [], _ => .nil
  | v :: vs, h => by
    obtain ⟨p, hp⟩ := h v List.mem_cons_self
    refine .cons ?_ (prs_of fun u hu => h u (List.mem_cons_of_mem _ hu))
    rw [kOf_eq hp]
    exact hp
end EG

/-! Twelve of one even and one odd number; one raised: the evenings. -/
namespace EG
open PySem L2
theorem getD_mem {ns : List Int} {i : Nat} (h : i < ns.length) : ns.getD i 0 ∈ ns := by
  rw [List.getD_eq_getElem?_getD, List.getElem?_eq_getElem h]
  exact List.getElem_mem h
theorem tw_nil {ns : List Int} {ev od : Int} (he : ev % 2 = 0) (ho : od % 2 = 1) (h : ∀ x ∈ ns, x = ev ∨ x = od) : evs ns = [] := by
  refine List.eq_nil_iff_forall_not_mem.mpr fun p hp => ?_
  obtain ⟨i, j, rfl, hij, hj, hg⟩ := mem_evs.mp hp
  obtain ⟨h1, h2⟩ := goodP_iff.mp hg
  have a := h _ (getD_mem (show i < ns.length by omega))
  have b := h _ (getD_mem hj)
  omega
def duP (ns : List Int) (pl k : Nat) : Bool := decide (k ≠ pl) && decide (ns.getD k 0 % 2 = ns.getD pl 0 % 2)
def duQ (pl k : Nat) : Pr := if k < pl then ((k : Int), (pl : Int)) else ((pl : Int), (k : Int))
def duL (ns : List Int) (pl n : Nat) : List Pr := ((List.range n).filter (duP ns pl)).map (duQ pl)
theorem duP_iff {ns : List Int} {pl k : Nat} : duP ns pl k = true ↔ k ≠ pl ∧ ns.getD k 0 % 2 = ns.getD pl 0 % 2 := by unfold duP; simp
theorem duL_succ (ns : List Int) (pl n : Nat) : duL ns pl (n + 1) = duL ns pl n ++ if duP ns pl n = true then [duQ pl n] else [] := by
  unfold duL
  rw [List.range_succ, List.filter_append, List.map_append]
  by_cases h : duP ns pl n = true
  · rw [if_pos h, List.filter_cons_of_pos h]; rfl
  · rw [if_neg h, List.filter_cons_of_neg h]; rfl
theorem mem_duL {ns : List Int} {pl n : Nat} {p : Pr} : p ∈ duL ns pl n ↔ ∃ k, k < n ∧ k ≠ pl ∧ ns.getD k 0 % 2 = ns.getD pl 0 % 2 ∧ p = duQ pl k := by
  unfold duL
  simp only [List.mem_map, List.mem_filter, List.mem_range, duP_iff]
  constructor
  · rintro ⟨k, ⟨h1, h2, h3⟩, rfl⟩
    exact ⟨k, h1, h2, h3, rfl⟩
  · rintro ⟨k, h1, h2, h3, rfl⟩
    exact ⟨k, ⟨h1, h2, h3⟩, rfl⟩
theorem duL_nodup (ns : List Int) (pl n : Nat) : (duL ns pl n).Nodup := by
  unfold duL List.Nodup
  rw [List.pairwise_map, List.pairwise_filter]
  refine List.Pairwise.imp ?_ (List.nodup_range (n := n))
  intro a b h ha hb e
  have h1 := (duP_iff.mp ha).1
  have h2 := (duP_iff.mp hb).1
  unfold duQ at e
  split at e <;> split at e <;> (have e1 := (Prod.mk.inj e).1; have e2 := (Prod.mk.inj e).2; omega)
theorem duL_len (ns : List Int) (pl n : Nat) : (duL ns pl n).length ≤ n := by
  unfold duL
  rw [List.length_map]
  exact Nat.le_trans (List.length_filter_le _ _) (by rw [List.length_range]; exact Nat.le_refl _)
/-- one raised by two -/
structure Up2 (ns : List Int) (pl : Nat) (ev od : Int) : Prop where
  he : ev % 2 = 0
  ho : od % 2 = 1
  lt : pl < ns.length
  rest : ∀ k, k < ns.length → k ≠ pl → ns.getD k 0 = ev ∨ ns.getD k 0 = od
  one : ns.getD pl 0 = ev + 2 ∨ ns.getD pl 0 = od + 2
theorem set_getD {ns : List Int} {i k : Nat} {v : Int} (h : i < ns.length) : (ns.set i v).getD k 0 = if k = i then v else ns.getD k 0 := by
  rw [List.getD_eq_getElem?_getD, List.getD_eq_getElem?_getD, List.getElem?_set]
  by_cases c : i = k
  · subst c
    simp [h]
  · have c2 : ¬ k = i := fun z => c z.symm
    simp [c, c2]
theorem up2_of {ns : List Int} {pl : Nat} {ev od : Int} (he : ev % 2 = 0) (ho : od % 2 = 1) (hl : pl < ns.length) (h : ∀ x ∈ ns, x = ev ∨ x = od) : Up2 (ns.set pl (ns.getD pl 0 + 2)) pl ev od := by
  refine ⟨he, ho, by rw [List.length_set]; exact hl, fun k hk n => ?_, ?_⟩
  · rw [List.length_set] at hk
    rw [set_getD hl, if_neg n]
    exact h _ (getD_mem hk)
  · rw [set_getD hl, if_pos rfl]
    have := h _ (getD_mem hl)
    omega
theorem Up2.ev_iff {ns : List Int} {pl : Nat} {ev od : Int} (u : Up2 ns pl ev od) {p : Pr} : p ∈ evs ns ↔ p ∈ duL ns pl ns.length := by
  rw [mem_duL, mem_evs]
  have one := u.one
  have he := u.he
  have ho := u.ho
  constructor
  · rintro ⟨i, j, rfl, hij, hj, hg⟩
    obtain ⟨h1, h2⟩ := goodP_iff.mp hg
    by_cases ci : i = pl
    · subst ci
      refine ⟨j, hj, by omega, by omega, ?_⟩
      unfold duQ
      rw [if_neg (by omega)]
    · by_cases cj : j = pl
      · subst cj
        refine ⟨i, by omega, ci, by omega, ?_⟩
        unfold duQ
        rw [if_pos hij]
      · have a := u.rest i (by omega) ci
        have b := u.rest j hj cj
        omega
  · rintro ⟨k, hk, n, hp, rfl⟩
    have a := u.rest k hk n
    have lt := u.lt
    unfold duQ
    split
    · rename_i c
      exact ⟨k, pl, rfl, c, lt, goodP_iff.mpr ⟨by omega, by omega⟩⟩
    · exact ⟨pl, k, rfl, by omega, hk, goodP_iff.mpr ⟨by omega, by omega⟩⟩
theorem Up2.perm {ns : List Int} {pl : Nat} {ev od : Int} (u : Up2 ns pl ev od) : (duL ns pl ns.length).Perm (evs ns) := (List.perm_ext_iff_of_nodup (duL_nodup _ _ _) (evs_nodup ns)).mpr fun _ => u.ev_iff.symm
theorem Up2.fall {ns : List Int} {pl : Nat} {ev od : Int} (u : Up2 ns pl ev od) {p : Pr} (hp : p ∈ evs ns) : fallP ns p = 2 := by
  obtain ⟨k, hk, n, h2, rfl⟩ := mem_duL.mp (u.ev_iff.mp hp)
  have a := u.rest k hk n
  have one := u.one
  have he := u.he
  have ho := u.ho
  unfold duQ
  split
  · show (ns.getD k 0 - ns.getD pl 0) * (ns.getD k 0 - ns.getD pl 0) / 2 = 2
    rw [show ns.getD k 0 - ns.getD pl 0 = -2 by omega]
    rfl
  · show (ns.getD pl 0 - ns.getD k 0) * (ns.getD pl 0 - ns.getD k 0) / 2 = 2
    rw [show ns.getD pl 0 - ns.getD k 0 = 2 by omega]
    rfl
/-- the sorted list of what is due -/
theorem Up2.sorted {ns : List Int} {pl : Nat} {ev od : Int} (u : Up2 ns pl ev od) {l : List Pr} (hp : l.Perm (duL ns pl ns.length)) (hs : l.Pairwise fun p q => ¬ ltPr q p) : l = evs ns := evs_uniq ((hp.trans u.perm).trans (cn_perm ns).symm) hs
end EG

/-! _law_twelve_right. -/
namespace EG
open PySem PySem.Spec PyProof.Rows L2
theorem cut_sub {xs : List V} {v : V} {lo hi : Option Int} (h : v ∈ cutV xs lo hi) : v ∈ xs := by
  unfold cutV at h
  exact List.mem_of_mem_drop (List.mem_of_mem_take h)
theorem ixN_at {n j : Nat} (h : j < n) : ixN n (j : Int) = some j := by
  have h2 : (j : Int) < (n : Int) := by omega
  simp [ixN, h2]
section
variable {P : Program} {w : World} {K : PySem.W.Frag} {mg : Str → Option Value} {base : Heap}
def sp_twelve (T : List (Addr × Str)) : Sp := fun vs H Q _ => ∃ (ev od mk : Int) (pl : Nat), vs = [.int ev, .int od, .int mk, .int (pl : Int)] ∧ 0 ≤ ev ∧ ev ≤ 999998 ∧ ev % 2 = 0 ∧ 0 ≤ od ∧ od ≤ 999998 ∧ od % 2 = 1 ∧ pl < 12 ∧ LamX.Tabs T H ∧ ∀ H', LamX.ExtN H H' → LamX.Tabs T H' → Q (.bl true) H'
abbrev N_l_twelve_right : List Str := ["_law_even", "_law_odd", "_law_marks", "_law_place", "_law_row", "_law_at", "_law_pair", "_law_ask", "_law_due", "_law_found", "_law_half"]
theorem ok_twelve {f f_evened f_fall g c Pt CB CE CG : Addr} {fd fk : FuncData} {T : List (Addr × Str)} (F : Fun K "_law_twelve_right" "_law_twelve_right" s_l_twelve_right f fd) (hc : fd.code = .ref c) (B : Blt mg) (TB : LamX.TabB base mg c Pt)
    (hm : (Pt, lamQ "_law_twelve_right") ∈ T) (hu : ∀ p ∈ T, p.1 = Pt → p.2 = lamQ "_law_twelve_right") (hB : mg "BadRow" = some (.ref CB)) (hE : mg "BadEvening" = some (.ref CE)) (hG : mg "GlassError" = some (.ref CG)) (hV : mg "ValueError" = none)
    (D : KdF K CB CE CG) (Fk : Fun K "_law_kinds" "_law_kinds" s_l_kinds g fk) (gk : mg "_law_kinds" = some (.ref g)) (bk : Binds K fk ["_law_ask"] [])
    (g_evened : mg "evened" = some (.ref f_evened)) (g_fall : mg "fall" = some (.ref f_fall)) (A2 : ∀ f sp, S2 K CB CE f_evened f_fall f sp → HeldX P w K mg base 4 f sp)
    (c_evenings : Cal (L2.CX P w) P w K mg base "evenings" ["row"] 3 (sp_evenings6 K CB)) (c_settled : Cal (L2.CX P w) P w K mg base "settled" ["row"] 3 (sp_settledX K CB))
    (c_evened : Cal (L2.CX P w) P w K mg base "evened" ["row", "evening"] 4 (sp_evenedX K CB CE)) (c_fall : Cal (L2.CX P w) P w K mg base "fall" ["row", "evening"] 4 (sp_fallX K CB CE)) :
    FnOk P w K mg base CX0 7 f fd ["_law_even", "_law_odd", "_law_marks", "_law_place"] (sp_twelve T) := by
  refine ok_code F hc sc_l_twelve_right (fun vs H Q E h => ?_) (fun A outer s H vs Q E hr h => ?_)
  · obtain ⟨ev, od, mk, pl, rfl, _⟩ := h
    rfl
  · obtain ⟨ev, od, mk, pl, rfl, ev0, ev1, ev2, od0, od1, od2, pl12, tabs, q⟩ := h
    refine ⟨_, (pss_cons (ps_set (i := 4) sc_l_twelve_right.nd rfl (.inr rfl) (pe_lst pa_nil))
    (pss_cons (ps_for PassesOwn.never rfl (pi_range1 (by rfl) B.range (pa_cons pe_int pa_nil)) (pg_name (i := 5) sc_l_twelve_right.nd rfl (.inl rfl))
    (pss_one (ps_expr (pe_bm PySem.F.plainAttrs_list PySem.F.slot_list_append PySem.F.type_list_append mt_append (pv 4) (pa_cons (pe_ifExp (pt_cmpR op_eq (pe_op op_and (pe_op op_shr (pv 2) (pv 5)) pe_int) pe_int (nomark _)) (pv 1) (pv 0)) pa_nil)))))
    (pss_cons (ps_if (PW.pt (pw_or (pt_cmpR op_notBl (pe_calX (E := fun _ _ _ => False) c_settled hr passF (by rfl) (pa_cons (pv 4) pa_nil)) pe_bl (nomark _)) (pw_or1 (pt_cmpR (r := rNeD K) (op_neD hr.units) (pe_calX (E := fun _ _ _ => False) c_evenings hr passF (by rfl) (pa_cons (pv 4) pa_nil)) (pe_lst pa_nil) (nomark _)))))
    (pss_one (ps_ret pe_bl))
    pss_nil)
    (pss_cons (ps_for PassesOwn.never rfl (pi_tup (pe_tup (pa_cons (pe_tup (pa_cons pe_int (pa_cons pe_int pa_nil))) (pa_cons (pe_tup (pa_cons pe_int (pa_cons pe_int pa_nil))) (pa_cons (pe_tup (pa_cons (pv 3) (pa_cons pe_int pa_nil))) pa_nil))))) (pg_name (i := 6) sc_l_twelve_right.nd rfl (.inr rfl))
    (pss_one (ps_for PassesOwn.never rfl (pi_tup (pe_tup (pa_cons (pe_glob (v := .ref f_evened) (by rfl) g_evened rfl) (pa_cons (pe_glob (v := .ref f_fall) (by rfl) g_fall rfl) pa_nil)))) (pg_name (i := 7) sc_l_twelve_right.nd rfl (.inr rfl))
      (pss_one (ps_if (pt_kinds (b1 := false) (b2 := true) (.inr ⟨rfl, rfl, rfl⟩) hr.units (pe_kinds (T := T) (k := 4) (t := fun E => tCallAX 7 (S2 K CB CE f_evened f_fall) E (tCons (tVar 4) (tCons (tVar 6) tNil))) Fk gk Fk.kp bk hB hE hG hV B.isi D (by rfl) TB rfl hm hu hr (LamX.lamS_by (by show LamX.lamSB (defScope s_l_twelve_right) _ = true; decide +kernel)) rfl (fun _ _ _ _ _ => rfl) (fun A outer s H E f c2 hr2 => pe_callAX (i := 7) A2 hr2 (passes_call (takes_of rfl rfl rfl rfl) (fun _ _ _ _ h => h)) rfl (.inr (.inr rfl)) (pa_cons (pv 4) (pa_cons (pv 6) pa_nil)))) (pe_lst (pa_cons pe_bl (pa_cons pe_bl (pa_cons pe_bl pa_nil)))) (nomark _))
        (pss_one (ps_ret pe_bl))
        pss_nil)))))
    (pss_cons (ps_asg (pe_op op_add (pe_ix (r := rIxL K) ix_list (pv 4) (pv 3) (fun _ _ => rfl)) pe_int) (pg_sub (pv 4) (pv 3) set_list))
    (pss_cons (ps_set (i := 8) sc_l_twelve_right.nd rfl (.inl rfl) (pe_lst pa_nil))
    (pss_cons (ps_for PassesOwn.never rfl (pi_range1 (by rfl) B.range (pa_cons pe_int pa_nil)) (pg_name (i := 5) sc_l_twelve_right.nd rfl (.inl rfl))
    (pss_one (ps_if (PW.pt (pw_and (pt_cmpR op_ne (pv 5) (pv 3) (nomark _)) (pw_and1 (pt_cmpR op_eq (pe_op op_mod (pe_ix (r := rIxL K) ix_list (pv 4) (pv 5) (fun _ _ => rfl)) pe_int) (pe_op op_mod (pe_ix (r := rIxL K) ix_list (pv 4) (pv 3) (fun _ _ => rfl)) pe_int) (nomark _)))))
      (pss_one (ps_expr (pe_bm PySem.F.plainAttrs_list PySem.F.slot_list_append PySem.F.type_list_append mt_append (pv 8) (pa_cons (pe_tup (pa_cons (pe_callB (call_min2 rfl) (by rfl) B.min PyProof.Rows.boot_min (pa_cons (pv 5) (pa_cons (pv 3) pa_nil))) (pa_cons (pe_callB (call_max2 rfl) (by rfl) B.max PyProof.Rows.boot_max (pa_cons (pv 5) (pa_cons (pv 3) pa_nil))) pa_nil))) pa_nil))))
      pss_nil)))
    (pss_cons (ps_if (PW.pt (pw_or (pt_cmpR (r := rNeD K) (op_neD hr.units) (pe_calX (E := fun _ _ _ => False) c_evenings hr passF (by rfl) (pa_cons (pv 4) pa_nil)) (pe_callB cr_sortedPO (by rfl) B.sorted PyProof.Rows.boot_sorted (pa_cons (pv 8) pa_nil)) (nomark _)) (pw_or1 (pt_cmpR op_ne (pe_calX (E := fun _ _ _ => False) c_settled hr passF (by rfl) (pa_cons (pv 4) pa_nil)) (pe_cmpR (r := rEqD K) (op_eqD hr.units) (pv 8) (pe_lst pa_nil) (nomark _)) (nomark _)))))
    (pss_one (ps_ret pe_bl))
    pss_nil)
    (pss_cons (ps_for PassesOwn.never rfl (pi_list (pe_slice (r := rSlL K) sl_list (pv 8) po_none (po_some pe_int))) (pg_name (i := 6) sc_l_twelve_right.nd rfl (.inr rfl))
    (pss_cons (ps_set (i := 9) sc_l_twelve_right.nd rfl (.inl rfl) (pe_callTy (r := rListOf K) call_list_of (by rfl) B.list PyProof.Rows.boot_list (pa_cons (pv 4) pa_nil)))
      (pss_cons (ps_set (i := 10) sc_l_twelve_right.nd rfl (.inl rfl) (pe_op op_fdiv (pe_op op_add (pe_ix (r := rIxL K) ix_list (pv 4) (pe_ix (r := rIxT K) ix_tup (pv 6) pe_int (fun _ _ => rfl)) (fun _ _ => rfl)) (pe_ix (r := rIxL K) ix_list (pv 4) (pe_ix (r := rIxT K) ix_tup (pv 6) pe_int (fun _ _ => rfl)) (fun _ _ => rfl))) pe_int))
      (pss_cons (ps_asg (pe_tup (pa_cons (pv 10) (pa_cons (pv 10) pa_nil))) (pg_tup rfl (pgs_cons (pg_sub (pv 9) (pe_ix (r := rIxT K) ix_tup (pv 6) pe_int (fun _ _ => rfl)) set_list) (pgs_cons (pg_sub (pv 9) (pe_ix (r := rIxT K) ix_tup (pv 6) pe_int (fun _ _ => rfl)) set_list) pgs_nil))))
      (pss_one (ps_if (PW.pt (pw_or (pt_cmpR (r := rNeD K) (op_neD hr.units) (pe_calX (E := fun _ _ _ => False) c_evened hr passF (by rfl) (pa_cons (pv 4) (pa_cons (pv 6) pa_nil))) (pv 9) (nomark _)) (pw_or1 (pt_cmpR op_ne (pe_calX (E := fun _ _ _ => False) c_fall hr passF (by rfl) (pa_cons (pv 4) (pa_cons (pv 6) pa_nil))) pe_int (nomark _)))))
      (pss_one (ps_ret pe_bl))
      pss_nil))))))
    (pss_one (ps_ret pe_bl))))))))))), ?_⟩
    refine ⟨Nat.zero_le _, fun L hL => ?_⟩
    have s0 : Same H (upd H L (.lst [])) := same_new hL
    have h0 : (upd H L (.lst [])) L = some (.lst (([] : List Int).map V.int)) := upd_same
    generalize upd H L (.lst []) = H0 at s0 h0
    -- the twelve
    refine ⟨_, rfl, by decide, by decide, for_range
      (fun j σ H' => ∃ (y5 : Option V) (ns : List Int), σ = [some (.int ev), some (.int od), some (.int mk), some (.int (pl : Int)), some (.ref L), y5, none, none, none, none, none] ∧ Same H H' ∧ H' L = some (.lst (ns.map V.int)) ∧ ns.length = j ∧ ∀ x ∈ ns, x = ev ∨ x = od)
      ⟨_, [], rfl, s0, h0, rfl, fun _ h => nomatch h⟩ (fun j σ H1 hj h => ?_) (fun σ H1 h => ?_)⟩
    · obtain ⟨y5, ns, rfl, s1, h1, ln, ens⟩ := h
      have hj : j < 12 := hj
      have go : ∀ x, x = ev ∨ x = od → ∃ (y5 : Option V) (ms : List Int), Same H (upd H1 L (.lst (ns.map V.int ++ [V.int x]))) ∧ (upd H1 L (.lst (ns.map V.int ++ [V.int x]))) L = some (.lst (ms.map V.int)) ∧ ms.length = j + 1 ∧ ∀ x ∈ ms, x = ev ∨ x = od := fun x hx =>
        ⟨none, ns ++ [x], same_upd2 s1 hL, by rw [upd_same, List.map_append]; rfl, by rw [List.length_append, ln]; rfl, fun z hz => by
          rcases List.mem_append.mp hz with hz | hz
          · exact ens z hz
          · rw [List.mem_singleton.mp hz]; exact hx⟩
      have sz : (ns.map V.int).length < sizeLine := small1000 (by rw [List.length_map]; omega)
      refine ⟨.ref L, rfl, .inl ⟨rfl, _, SqL.of h1⟩, .int mk, rfl, .int (0 + (j : Int)), rfl, _, _, rfl, rfl, by omega, _, _, rfl, rfl, rfl, _, rfl, ite2 (fun _ => ⟨.int od, rfl, L, _, _, rfl, rfl, h1, sz, ?_⟩) (fun _ => ⟨.int ev, rfl, L, _, _, rfl, rfl, h1, sz, ?_⟩)⟩
      · obtain ⟨_, ms, a1, a2, a3, a4⟩ := go od (.inr rfl)
        exact ⟨_, ms, rfl, a1, a2, a3, a4⟩
      · obtain ⟨_, ms, a1, a2, a3, a4⟩ := go ev (.inl rfl)
        exact ⟨_, ms, rfl, a1, a2, a3, a4⟩
    obtain ⟨y5, ns, rfl, s1, h1, ln, ens⟩ := h
    have ln : ns.length = 12 := ln
    have okR : RowOk ns 12 1000000 := ⟨by omega, by omega, fun x hx => by have := ens x hx; omega⟩
    have e0 : evs ns = [] := tw_nil ev2 od2 ens
    have hL1 : Lst H1 L ns := h1
    -- nothing can be evened
    refine ⟨.ref L, rfl, .inl ⟨L, ns, rfl, hL1, okR, fun H2 s2 => ?_⟩⟩
    rw [decide_eq_true e0]
    refine ⟨true, true, rfl, rfl, _, rfl, itN (by decide) ?_⟩
    refine ⟨.ref L, rfl, .inl ⟨L, ns, rfl, hL1.mono s2, okR, fun H3 p ws s3 hp hws pr => ?_⟩⟩
    refine ⟨Nat.zero_le _, fun z hz => ?_⟩
    have sz : Same H3 (upd H3 z (.lst [])) := same_new hz
    refine ⟨prsD (evs ns), prsD [], dp_prs (SqL.of (sz _ _ hws)) (pr.mono (Same.tups sz)), dp_prs (SqL.of upd_same) .nil, shaped_prs _, shaped_prs _, _, rfl, itN (by rw [e0]; exact nq_prs _) ?_⟩
    have s4 := ((s1.trans s2).trans s3).trans sz
    have hL4 := hL1.mono ((s2.trans s3).trans sz)
    generalize upd H3 z (.lst []) = H4 at s4 hL4
    clear s0 h0 s1 h1 s2 s3 sz hp hws pr hz hL1
    -- no pair is one
    refine ⟨(by show 2 ≤ sizeLine; decide), fun t0 ht0 => ⟨(by show 2 ≤ sizeLine; decide), fun t1 ht1 => ⟨.int (pl : Int), rfl, (by show 2 ≤ sizeLine; decide), fun t2 ht2 => ⟨(by show 3 ≤ sizeLine; decide), fun tt htt => ?_⟩⟩⟩⟩
    have c0 := same_new (o := .tup [.int 0, .int 1]) ht0
    have e0' : (upd H4 t0 (.tup [.int 0, .int 1])) t0 = some (.tup [.int 0, .int 1]) := upd_same
    generalize upd H4 t0 (.tup [.int 0, .int 1]) = G0 at c0 e0' ht1 ht2 htt ⊢
    have c1 := same_new (o := .tup [.int 10, .int 11]) ht1
    have e1' : (upd G0 t1 (.tup [.int 10, .int 11])) t1 = some (.tup [.int 10, .int 11]) := upd_same
    generalize upd G0 t1 (.tup [.int 10, .int 11]) = G1 at c1 e1' ht2 htt ⊢
    have c2 := same_new (o := .tup [.int (pl : Int), .int 11]) ht2
    have e2' : (upd G1 t2 (.tup [.int (pl : Int), .int 11])) t2 = some (.tup [.int (pl : Int), .int 11]) := upd_same
    generalize upd G1 t2 (.tup [.int (pl : Int), .int 11]) = G2 at c2 e2' htt ⊢
    have bp : ∀ v ∈ [V.ref t0, .ref t1, .ref t2], PairBad K G2 ns v := fun v hv => by
      have no : ∀ p : Pr, p ∉ evs ns := fun p z => by rw [e0] at z; cases z
      simp only [List.mem_cons, List.not_mem_nil, or_false] at hv
      rcases hv with rfl | rfl | rfl
      · exact .inr ⟨t0, _, rfl, c2 _ _ (c1 _ _ e0'), .inr (.inr ⟨(0, 1), rfl, no _⟩)⟩
      · exact .inr ⟨t1, _, rfl, c2 _ _ e1', .inr (.inr ⟨(10, 11), rfl, no _⟩)⟩
      · exact .inr ⟨t2, _, rfl, e2', .inr (.inr ⟨((pl : Int), 11), rfl, no _⟩)⟩
    have c3 := same_new (o := .tup [.ref t0, .ref t1, .ref t2]) htt
    have e3' : (upd G2 tt (.tup [.ref t0, .ref t1, .ref t2])) tt = some (.tup [.ref t0, .ref t1, .ref t2]) := upd_same
    have bp3 : ∀ v ∈ [V.ref t0, .ref t1, .ref t2], PairBad K (upd G2 tt (.tup [.ref t0, .ref t1, .ref t2])) ns v := fun v hv => (bp v hv).mono c3
    have s03 := ((c0.trans c1).trans c2).trans c3
    generalize upd G2 tt (.tup [.ref t0, .ref t1, .ref t2]) = G3 at c3 e3' bp3 s03 ⊢
    have sG := s4.trans s03
    have hLG := hL4.mono s03
    have tG := tabs.ext sG
    clear bp c0 c1 c2 c3 e0' e1' e2' ht0 ht1 ht2 htt s03 hL4
    refine ⟨tt, rfl, ⟨_, SqT.of e3'⟩, for_tup (K := K) (a := tt) (xs := [V.ref t0, .ref t1, .ref t2])
      (fun _ σ H' => ∃ y6 y7, σ = [some (.int ev), some (.int od), some (.int mk), some (.int (pl : Int)), some (.ref L), y5, y6, y7, none, none, none] ∧ LamX.ExtN G3 H' ∧ LamX.Tabs T H')
      ⟨_, _, rfl, LamX.ExtN.refl _, tG⟩ (fun i σ H' _ h => ?_) (fun i x σ HA hx h => ?_) (fun σ HA h => ?_)⟩
    · obtain ⟨_, _, _, e, _⟩ := h
      exact SqT.of (e _ _ e3' (fun _ z => nomatch z))
    · obtain ⟨y6, y7, rfl, eA, tA⟩ := h
      have bx := (bp3 x (List.mem_of_getElem? hx)).ext eA
      refine ⟨(by show 2 ≤ sizeLine; decide), fun tb htb => ?_⟩
      have sB := same_new (o := .tup [.ref f_evened, .ref f_fall]) htb
      have hTB : (upd HA tb (.tup [.ref f_evened, .ref f_fall])) tb = some (.tup [.ref f_evened, .ref f_fall]) := upd_same
      generalize upd HA tb (.tup [.ref f_evened, .ref f_fall]) = HB at sB hTB
      refine ⟨tb, rfl, ⟨_, SqT.of hTB⟩, for_tup (K := K) (a := tb) (xs := [.ref f_evened, .ref f_fall])
        (fun _ σ H' => ∃ y7, σ = [some (.int ev), some (.int od), some (.int mk), some (.int (pl : Int)), some (.ref L), y5, some x, y7, none, none, none] ∧ LamX.ExtN HB H' ∧ LamX.Tabs T H')
        ⟨_, rfl, LamX.ExtN.refl _, tA.ext sB⟩ (fun i σ H' _ h => ?_) (fun i y σ HC hy h => ?_) (fun σ HC h => ?_)⟩
      · obtain ⟨_, _, e, _⟩ := h
        exact SqT.of (e _ _ hTB (fun _ z => nomatch z))
      · obtain ⟨y7, rfl, eC, tC⟩ := h
        refine ⟨tC, fun H2 e2 E2 Q2 hE2 => ?_, fun H5 e5 t5 => iteF ⟨_, rfl, eC.trans e5, t5⟩⟩
        have eX := ((eA.trans (.of sB)).trans eC).trans e2
        have b2 := ((bx.mono sB).ext eC).ext e2
        have hL2 : Lst H2 L ns := eX _ _ hLG (fun _ z => nomatch z)
        have hy' := List.mem_of_getElem? hy
        have bad : sp_bad2X K CB CE [.ref L, x] H2 Q2 E2 := ⟨_, _, rfl, .inr ⟨L, ns, rfl, hL2, okR, b2, hE2⟩⟩
        simp only [List.mem_cons, List.not_mem_nil, or_false] at hy'
        rcases hy' with rfl | rfl
        · exact ⟨_, _, rfl, .inl ⟨rfl, rfl⟩, .ref L, rfl, x, rfl, .inr bad⟩
        · exact ⟨_, _, rfl, .inr ⟨rfl, rfl⟩, .ref L, rfl, x, rfl, .inr bad⟩
      · obtain ⟨y7, rfl, eC, tC⟩ := h
        exact ⟨_, _, rfl, (eA.trans (.of sB)).trans eC, tC⟩
    obtain ⟨y6, y7, rfl, eA, tA⟩ := h
    have hLA : Lst HA L ns := eA _ _ hLG (fun _ z => nomatch z)
    have eHA : LamX.ExtN H HA := (LamX.ExtN.of sG).trans eA
    clear eA tG sG hLG bp3 e3' s4 tabs e0 okR
    -- one raised
    have hpl : pl < ns.length := by omega
    have up := up2_of ev2 od2 hpl ens
    have okM : RowOk (ns.set pl (ns.getD pl 0 + 2)) 12 1000000 := ⟨by rw [List.length_set]; omega, by rw [List.length_set]; omega, fun x hx => by
      rcases List.mem_or_eq_of_mem_set hx with h | h
      · have := ens x h; omega
      · have := ens _ (getD_mem hpl); omega⟩
    have lnM : (ns.set pl (ns.getD pl 0 + 2)).length = 12 := by rw [List.length_set]; exact ln
    refine ⟨.ref L, rfl, .int (pl : Int), rfl, L, _, _, _, rfl, rfl, hLA.sq, atI_nat (row_get hpl), _, _, rfl, rfl, .ref L, rfl, .int (pl : Int), rfl, L, _, _, pl, rfl, rfl, hLA, ixN_at (by rw [List.length_map]; exact hpl), ?_⟩
    have hLB : Lst (upd HA L (.lst ((ns.map V.int).set pl (.int (ns.getD pl 0 + 2))))) L (ns.set pl (ns.getD pl 0 + 2)) := by
      unfold Lst
      rw [upd_same, List.map_set]
    have eHB := extN_upd (o := .lst ((ns.map V.int).set pl (.int (ns.getD pl 0 + 2)))) eHA hL
    have tB := tabs_upd (o := .lst ((ns.map V.int).set pl (.int (ns.getD pl 0 + 2)))) tA hLA
    generalize upd HA L (.lst ((ns.map V.int).set pl (.int (ns.getD pl 0 + 2)))) = HB at hLB eHB tB
    generalize ns.set pl (ns.getD pl 0 + 2) = ms at up okM lnM hLB
    clear hLA eHA tA hpl ens ln
    -- what is due
    refine ⟨Nat.zero_le _, fun dl hdl => ?_⟩
    have sC : Same HB (upd HB dl (.lst [])) := same_new hdl
    have hdC : (upd HB dl (.lst [])) dl = some (.lst []) := upd_same
    generalize upd HB dl (.lst []) = HC at sC hdC
    have ndl : dl ≠ L := (ne_of_none (show HB L = _ from hLB) hdl).symm
    refine ⟨_, rfl, by decide, by decide, for_range
      (fun j σ H' => ∃ (y5 : Option V) (ws : List V), σ = [some (.int ev), some (.int od), some (.int mk), some (.int (pl : Int)), some (.ref L), y5, y6, y7, some (.ref dl), none, none] ∧ Same HB H' ∧ H' dl = some (.lst ws) ∧ Prs H' ws (duL ms pl j))
      ⟨_, [], rfl, sC, hdC, .nil⟩ (fun j σ H1 hj h => ?_) (fun σ H1 h => ?_)⟩
    · obtain ⟨y5, ws, rfl, s1, h1, r1⟩ := h
      have hj : j < 12 := hj
      have hL1 := hLB.mono s1
      have hplm : pl < ms.length := by omega
      have hjm : j < ms.length := by omega
      have g1 : atI (ms.map V.int) (0 + (j : Int)) = some (.int (ms.getD j 0)) := at_of (by omega) (row_get hjm)
      have g2 : atI (ms.map V.int) (pl : Int) = some (.int (ms.getD pl 0)) := atI_nat (row_get hplm)
      refine ⟨.int (0 + (j : Int)), rfl, .int (pl : Int), rfl, rfl, _, rfl, ?_⟩
      rw [dec_int]
      by_cases c1 : j = pl
      · refine itN (by rw [decide_eq_true (show 0 + (j : Int) = (pl : Int) by omega)]; decide) (iteF ?_)
        refine ⟨_, ws, rfl, s1, h1, ?_⟩
        rw [duL_succ, if_neg (fun z => (duP_iff.mp z).1 c1), List.append_nil]
        exact r1
      · refine itP (by rw [decide_eq_false (show ¬ 0 + (j : Int) = (pl : Int) by omega)]; rfl) ?_
        refine ⟨.ref L, rfl, .int (0 + (j : Int)), rfl, L, _, _, _, rfl, rfl, hL1.sq, g1, _, _, rfl, rfl, (by show (0 : Int) < 2; decide), .ref L, rfl, .int (pl : Int), rfl, L, _, _, _, rfl, rfl, hL1.sq, g2, _, _, rfl, rfl, (by show (0 : Int) < 2; decide), rfl, _, rfl, ?_⟩
        rw [dec_int]
        by_cases c2 : ms.getD j 0 % 2 = ms.getD pl 0 % 2
        · refine itP (decide_eq_true c2) ?_
          refine ⟨.ref dl, rfl, .inl ⟨rfl, _, SqL.of h1⟩, .int (0 + (j : Int)), rfl, .int (pl : Int), rfl, _, _, rfl, .int (0 + (j : Int)), rfl, .int (pl : Int), rfl, _, _, rfl, (by show 2 ≤ sizeLine; decide), fun t ht => ?_⟩
          have ep : ([.int (if (pl : Int) < 0 + (j : Int) then (pl : Int) else 0 + (j : Int)), .int (if (pl : Int) > 0 + (j : Int) then (pl : Int) else 0 + (j : Int))] : List V) = [.int (duQ pl j).1, .int (duQ pl j).2] := by
            unfold duQ
            by_cases c3 : j < pl
            · rw [if_pos c3, if_neg (by omega), if_pos (by omega), show (0 : Int) + (j : Int) = (j : Int) by omega]
            · rw [if_neg c3, if_pos (by omega), if_neg (by omega), show (0 : Int) + (j : Int) = (j : Int) by omega]
          rw [ep]
          have st : Same H1 (upd H1 t (.tup [.int (duQ pl j).1, .int (duQ pl j).2])) := same_new ht
          have nt : t ≠ dl := (ne_of_none h1 ht).symm
          have htt : (upd H1 t (.tup [.int (duQ pl j).1, .int (duQ pl j).2])) t = some (.tup [.int (duQ pl j).1, .int (duQ pl j).2]) := upd_same
          generalize upd H1 t (.tup [.int (duQ pl j).1, .int (duQ pl j).2]) = H2 at st htt
          have lw : ws.length < sizeLine := small1000 (by rw [pd_len r1]; have := duL_len ms pl j; omega)
          refine ⟨dl, ws, _, rfl, rfl, st _ _ h1, lw, ?_⟩
          refine ⟨_, ws ++ [.ref t], rfl, same_upd2 (s1.trans st) hdl, upd_same, ?_⟩
          rw [duL_succ, if_pos (duP_iff.mpr ⟨c1, c2⟩)]
          exact prs_app (r1.mono ((Same.tups st).trans (tups_lst (st _ _ h1)))) (.cons ⟨t, rfl, by rw [upd_ne nt]; exact htt⟩ .nil)
        · refine itN (by rw [decide_eq_false c2]; decide) ?_
          refine ⟨_, ws, rfl, s1, h1, ?_⟩
          rw [duL_succ, if_neg (fun z => c2 (duP_iff.mp z).2), List.append_nil]
          exact r1
    obtain ⟨y5', ws, rfl, s1, h1, r1⟩ := h
    have r1 : Prs H1 ws (duL ms pl ms.length) := by rw [lnM]; exact r1
    have hL1 := hLB.mono s1
    -- the same evenings
    refine ⟨.ref L, rfl, .inl ⟨L, ms, rfl, hL1, okM, fun H2 p vs s2 hp hvs pr => ?_⟩⟩
    have h2 := s2 _ _ h1
    have r2 := r1.mono (Same.tups s2)
    refine ⟨.ref dl, rfl, dl, ws, kOf H2, rfl, SqL.of h2, fun x hx => ?_, fun ys py hs hst hpy => ?_⟩
    · obtain ⟨pr, _, t, ex, et⟩ := prs_mem r2 hx
      exact ⟨t, ex, by rw [kOf_eq ⟨t, ex, et⟩]; exact et⟩
    have sN : Same H2 (upd H2 py (.lst ys)) := same_new hpy
    have pyp : Prs H2 ys (ys.map (kOf H2)) := prs_of fun v hv => by
      obtain ⟨pr, _, hpr⟩ := prs_mem r2 (hst.perm.mem_iff.mp hv)
      exact ⟨pr, hpr⟩
    have ey : ys.map (kOf H2) = evs ms := by
      refine up.sorted ?_ ?_
      · rw [← prs_kOf r2]
        exact hst.perm.map _
      · rw [List.pairwise_map]
        refine hs.imp fun {x y} h h2 => ?_
        have h3 : ltP (kOf H2) y x = true := SrtO.lexB_iff.mpr h2
        exact absurd (h.symm.trans h3) (by decide)
    rw [ey] at pyp
    refine ⟨prsD (evs ms), prsD (evs ms), dp_prs (SqL.of (sN _ _ hvs)) (pr.mono (Same.tups sN)), dp_prs (SqL.of upd_same) (pyp.mono (Same.tups sN)), shaped_prs _, shaped_prs _, _, rfl, itN (nq_prs _) ?_⟩
    have s3 := s2.trans sN
    generalize upd H2 py (.lst ys) = H3 at s3
    refine ⟨.ref L, rfl, .inl ⟨L, ms, rfl, hL1.mono s3, okM, fun H4 s4 => ?_⟩⟩
    have s34 := s3.trans s4
    have h4 := s34 _ _ h1
    have r4 := r1.mono (Same.tups s34)
    refine ⟨.ref dl, rfl, Nat.zero_le _, fun z hz => ?_⟩
    have s5 : Same H4 (upd H4 z (.lst [])) := same_new hz
    refine ⟨prsD (duL ms pl ms.length), prsD [], dp_prs (SqL.of (s5 _ _ h4)) (r4.mono (Same.tups s5)), dp_prs (SqL.of upd_same) .nil, shaped_prs _, shaped_prs _, ?_⟩
    rw [eqv_prs]
    have eD : decide (evs ms = []) = decide (duL ms pl ms.length = []) := by
      have pp := up.perm.length_eq
      by_cases c : evs ms = []
      · rw [decide_eq_true c, decide_eq_true (List.length_eq_zero_iff.mp (by rw [pp, c]; rfl))]
      · rw [decide_eq_false c, decide_eq_false (fun z => c (List.length_eq_zero_iff.mp (by rw [← pp, z]; rfl)))]
    refine ⟨rfl, _, rfl, itN (by rw [eD]; simp) ?_⟩
    have s15 := s34.trans s5
    generalize upd H4 z (.lst []) = H5 at s15
    have h5 := s15 _ _ h1
    have r5 := r1.mono (Same.tups s15)
    have hL5 := hL1.mono s15
    have sB5 := s1.trans s15
    clear s1 h1 r1 hL1 s2 hp hvs pr h2 r2 sN pyp ey s3 s4 s34 h4 r4 hz s5 eD s15 hpy hs hst sC hdC
    -- the first two
    refine ⟨.ref dl, rfl, 2, rfl, dl, _, rfl, SqL.of h5, fun cu hcu => ?_⟩
    have sU : Same H5 (upd H5 cu (.lst (cutV ws none (some 2)))) := same_new hcu
    have hcU : (upd H5 cu (.lst (cutV ws none (some 2)))) cu = some (.lst (cutV ws none (some 2))) := upd_same
    have hLU := hL5.mono sU
    have rU := r5.mono (Same.tups sU)
    have sBU := sB5.trans sU
    generalize upd H5 cu (.lst (cutV ws none (some 2))) = HU at sU hcU hLU rU sBU
    refine ⟨cu, rfl, ⟨_, SqL.of hcU⟩, for_list (K := K) (a := cu) (xs := cutV ws none (some 2))
      (fun _ σ H' => ∃ z6 z9 z10, σ = [some (.int ev), some (.int od), some (.int mk), some (.int (pl : Int)), some (.ref L), y5', z6, y7, some (.ref dl), z9, z10] ∧ Same HU H')
      ⟨_, _, _, rfl, Same.refl _⟩ (fun i σ H' _ h => ?_) (fun i x σ HV hx h => ?_) (fun σ HV h => ?_)⟩
    · obtain ⟨_, _, _, _, s⟩ := h
      exact SqL.of (s _ _ hcU)
    · obtain ⟨z6, z9, z10, rfl, sV⟩ := h
      obtain ⟨pp, hpp, e, rfl, he⟩ := prs_mem rU (cut_sub (List.mem_of_getElem? hx))
      have hpe := up.ev_iff.mpr hpp
      obtain ⟨i1, j1, epp, hij, hj1, hgd⟩ := mem_evs.mp hpe
      have heV := sV _ _ he
      have hLV := hLU.mono sV
      have hi1 : i1 < ms.length := by omega
      refine ⟨.ref L, rfl, L, _, rfl, .inl hLV.sq, fun fo hfo => ?_⟩
      have sW : Same HV (upd HV fo (.lst (ms.map V.int))) := same_new hfo
      have hfW : Lst (upd HV fo (.lst (ms.map V.int))) fo ms := upd_same
      have heW := sW _ _ heV
      have hLW := hLV.mono sW
      rw [epp] at heW
      generalize upd HV fo (.lst (ms.map V.int)) = HW at sW hfW heW hLW
      refine ⟨.ref L, rfl, .ref e, rfl, e, _, 0, .int (i1 : Int), rfl, rfl, SqT.of heW, rfl, L, _, _, _, rfl, rfl, hLW.sq, atI_nat (row_get hi1), .ref L, rfl, .ref e, rfl, e, _, 1, .int (j1 : Int), rfl, rfl, SqT.of heW, rfl, L, _, _, _, rfl, rfl, hLW.sq, atI_nat (row_get hj1), _, _, rfl, rfl, _, _, rfl, rfl, ⟨by decide, by decide⟩, ?_⟩
      refine ⟨.int (half ms i1 j1), rfl, .int (half ms i1 j1), rfl, (by show 2 ≤ sizeLine; decide), fun t ht => ?_⟩
      have sX : Same HW (upd HW t (.tup [.int (half ms i1 j1), .int (half ms i1 j1)])) := same_new ht
      have htX : (upd HW t (.tup [.int (half ms i1 j1), .int (half ms i1 j1)])) t = some (.tup [.int (half ms i1 j1), .int (half ms i1 j1)]) := upd_same
      have hfX := hfW.mono sX
      have heX := sX _ _ heW
      have hLX := hLW.mono sX
      generalize upd HW t (.tup [.int (half ms i1 j1), .int (half ms i1 j1)]) = HX at sX htX hfX heX hLX
      have sVX := sW.trans sX
      refine ⟨t, _, rfl, SqT.of htX, rfl, _, _, rfl, .ref fo, rfl, .ref e, rfl, e, _, 0, .int (i1 : Int), rfl, rfl, SqT.of heX, rfl, fo, _, _, i1, rfl, rfl, hfX, ixN_at (by rw [List.length_map]; exact hi1), ?_⟩
      have sY : Same HV (upd HX fo (.lst ((ms.map V.int).set i1 (.int (half ms i1 j1))))) := same_upd2 sVX hfo
      have hfY : (upd HX fo (.lst ((ms.map V.int).set i1 (.int (half ms i1 j1))))) fo = some (.lst ((ms.map V.int).set i1 (.int (half ms i1 j1)))) := upd_same
      have heY := sY _ _ heV
      rw [epp] at heY
      generalize upd HX fo (.lst ((ms.map V.int).set i1 (.int (half ms i1 j1)))) = HY at sY hfY heY
      refine ⟨_, _, rfl, .ref fo, rfl, .ref e, rfl, e, _, 1, .int (j1 : Int), rfl, rfl, SqT.of heY, rfl, fo, _, _, j1, rfl, rfl, hfY, ixN_at (by rw [List.length_set, List.length_map]; exact hj1), rfl, ?_⟩
      have sZ : Same HV (upd HY fo (.lst (((ms.map V.int).set i1 (.int (half ms i1 j1))).set j1 (.int (half ms i1 j1))))) := same_upd2 sY hfo
      have hfZ : Lst (upd HY fo (.lst (((ms.map V.int).set i1 (.int (half ms i1 j1))).set j1 (.int (half ms i1 j1))))) fo (behP ms pp) := by
        unfold Lst
        rw [upd_same, ← List.map_set, ← List.map_set, beh_set, epp]
        rfl
      have heZ := sZ _ _ heV
      have hLZ := hLV.mono sZ
      generalize upd HY fo (.lst (((ms.map V.int).set i1 (.int (half ms i1 j1))).set j1 (.int (half ms i1 j1)))) = HZ at sZ hfZ heZ hLZ
      refine ⟨.ref L, rfl, .ref e, rfl, .inl ⟨L, e, ms, pp, rfl, hLZ, okM, heZ, hpe, fun J1 o j1s ho hO => ?_⟩⟩
      refine ⟨.ref fo, rfl, rowD (behP ms pp), rowD (behP ms pp), dp_row' hO, dp_row' (hfZ.mono j1s), shaped_row _, shaped_row _, _, rfl, itN (nq_row _) ?_⟩
      refine ⟨.ref L, rfl, .ref e, rfl, .inl ⟨L, e, ms, pp, rfl, hLZ.mono j1s, okM, j1s _ _ heZ, hpe, fun J2 j2s => ?_⟩⟩
      rw [up.fall hpe]
      refine ⟨rfl, _, rfl, itN (by decide) ?_⟩
      exact ⟨_, _, _, rfl, ((sV.trans sZ).trans j1s).trans j2s⟩
    · obtain ⟨z6, z9, z10, rfl, sV⟩ := h
      exact q HV (eHB.trans (.of (sBU.trans sV))) (tB.ext (sBU.trans sV))
end
end EG

/-! _law_spoiled_right. -/
namespace EG
open PySem PySem.Spec PyProof.Rows L2
abbrev R12 : Rw := [0, 2, 4, 6, 8, 10, 12, 14, 16, 18, 20, 22]
theorem r12_at : ∀ i : Nat, i < 12 → R12[i]? = some (2 * (i : Int)) := by decide
theorem r12_ok : RowOk R12 12 1000000 := by unfold RowOk; decide
theorem r12_ev : ((10 : Int), (11 : Int)) ∈ evs R12 := mem_evs.mpr ⟨10, 11, rfl, by decide, by decide, by decide⟩
theorem r12_beh : behP R12 (10, 11) = [0, 2, 4, 6, 8, 10, 12, 14, 16, 18, 21, 21] := by decide
theorem r12_66 : (evs R12).length = 66 := by decide +kernel
theorem cut10 : cutV (R12.map V.int) none (some 10) = ([0, 2, 4, 6, 8, 10, 12, 14, 16, 18] : Rw).map V.int := by
  unfold cutV
  rw [HT.sIx_none, show HT.sIx (R12.map V.int).length (R12.map V.int).length (some 10) = min 10 (R12.map V.int).length from HT.sIx_nat _ _ 10]
  rfl
theorem not_ev {ns : List Int} {a b : Int} (h : ¬ (0 ≤ a ∧ a < b ∧ b < (ns.length : Int))) : (a, b) ∉ evs ns := fun z => by
  obtain ⟨i, j, e, hij, hj, _⟩ := mem_evs.mp z
  have e1 : a = (i : Int) := (Prod.mk.inj e).1
  have e2 : b = (j : Int) := (Prod.mk.inj e).2
  omega
theorem paired_set {α β : Type} {F : α → β → Prop} {x : α} {b : β} (h : F x b) : ∀ {xs : List α} {bs : List β} (i : Nat), Paired F xs bs → Paired F (xs.set i x) (bs.set i b)
  | _, _, _, .nil => .nil
  | _, _, 0, .cons _ t => .cons h t
  | _, _, i + 1, .cons r t => .cons r (paired_set h i t)
/-- no number within the bounds -/
def Out (K : PySem.W.Frag) (H : Hp) (g : Int) (x : V) : Prop := WhL K H x false ∨ ∃ n : Int, x = .int n ∧ ¬ (0 ≤ n ∧ n ≤ g)
theorem Out.item {K : PySem.W.Frag} {H : Hp} {g : Int} {x : V} (h : Out K H g x) : ItemOk K H g x false := by
  rcases h with h | ⟨n, e, h⟩
  · exact .inl ⟨rfl, h.wh⟩
  · exact .inr ⟨n, e, by rw [decide_eq_false h]⟩
theorem Out.at {K : PySem.W.Frag} {H H1 : Hp} {g : Int} {x : V} (h : Out K H g x) (s : Same H H1) : Out K H1 g x := by
  rcases h with h | h
  · exact .inl (h.at fun c o _ e _ => s c o e)
  · exact .inr h
theorem bad_set {K : PySem.W.Frag} {H : Hp} {a : Addr} {ns : Rw} {i : Nat} {x : V} {m g : Int} (h : H a = some (.lst ((ns.map V.int).set i x))) (hi : i < ns.length) (l1 : ns.length ≤ 900) (l2 : (ns.length : Int) ≤ m) (ok : ∀ x ∈ ns, 0 ≤ x ∧ x ≤ g) (o : Out K H g x) : RowBad K H m g (.ref a) := by
  have ln : ((ns.map V.int).set i x).length = ns.length := by rw [List.length_set, List.length_map]
  refine .inr ⟨a, _, rfl, h, by omega, .inr ⟨by omega, by omega, _, paired_set o.item i (rowOk_items ok), ?_⟩⟩
  refine List.all_eq_false.mpr ⟨false, List.mem_iff_getElem?.mpr ⟨i, ?_⟩, by decide⟩
  rw [List.getElem?_set_self (by rw [List.length_replicate]; exact hi)]
section
variable {P : Program} {w : World} {K : PySem.W.Frag} {mg : Str → Option Value} {base : Heap}
/-- the doors of a row -/
def S6 (K : PySem.W.Frag) (CB CA CN fe fs fa fn fm : Addr) : Addr → Sp → Prop := fun f sp => (f = fe ∧ sp = sp_evenings6 K CB) ∨ (f = fs ∧ sp = sp_settledX K CB) ∨ (f = fa ∧ sp = sp_alike6 K CB CA CN) ∨ (f = fn ∧ sp = sp_endsX K CB) ∨ (f = fm ∧ sp = sp_few6 K CB)
def sp_spoiled (T : List (Addr × Str)) : Sp := fun vs H Q _ => ∃ (pl : Nat) (z : Int), vs = [.int (pl : Int), .int z] ∧ pl < 12 ∧ LamX.Tabs T H ∧ ∀ H', LamX.ExtN H H' → LamX.Tabs T H' → Q (.bl true) H'
abbrev N_l_spoiled_right : List Str := ["_law_place", "_law_at", "_law_row", "_law_bad", "_law_ask", "_law_five", "_law_pairs", "_law_pair", "_law_other", "_law_one"]
theorem ok_spoiled {f f_evenings f_settled f_evened f_fall f_alike f_ends f_fewest_most g c Pt CB CE CG CA CN : Addr} {fd fk : FuncData} {T : List (Addr × Str)} (F : Fun K "_law_spoiled_right" "_law_spoiled_right" s_l_spoiled_right f fd) (hc : fd.code = .ref c) (B : Blt mg) (TB : LamX.TabB base mg c Pt)
    (hm : (Pt, lamQ "_law_spoiled_right") ∈ T) (hu : ∀ p ∈ T, p.1 = Pt → p.2 = lamQ "_law_spoiled_right") (hB : mg "BadRow" = some (.ref CB)) (hE : mg "BadEvening" = some (.ref CE)) (hG : mg "GlassError" = some (.ref CG)) (hV : mg "ValueError" = none)
    (D : KdF K CB CE CG) (Fk : Fun K "_law_kinds" "_law_kinds" s_l_kinds g fk) (gk : mg "_law_kinds" = some (.ref g)) (bk : Binds K fk ["_law_ask"] [])
    (g_evenings : mg "evenings" = some (.ref f_evenings)) (g_settled : mg "settled" = some (.ref f_settled)) (g_evened : mg "evened" = some (.ref f_evened)) (g_fall : mg "fall" = some (.ref f_fall)) (g_alike : mg "alike" = some (.ref f_alike)) (g_ends : mg "ends" = some (.ref f_ends)) (g_fewest_most : mg "fewest_most" = some (.ref f_fewest_most))
    (A1 : ∀ f sp, S6 K CB CA CN f_evenings f_settled f_alike f_ends f_fewest_most f sp → HeldX P w K mg base 93 f sp) (A2 : ∀ f sp, S2 K CB CE f_evened f_fall f sp → HeldX P w K mg base 4 f sp)
    (c_evenings : Cal (L2.CX P w) P w K mg base "evenings" ["row"] 3 (sp_evenings6 K CB)) (c_evened : Cal (L2.CX P w) P w K mg base "evened" ["row", "evening"] 4 (sp_evenedX K CB CE)) :
    FnOk P w K mg base CX0 96 f fd ["_law_place", "_law_at"] (sp_spoiled T) := by
  refine ok_code F hc sc_l_spoiled_right (fun vs H Q E h => ?_) (fun A outer s H vs Q E hr h => ?_)
  · obtain ⟨pl, z, rfl, _⟩ := h
    rfl
  · obtain ⟨pl, z, rfl, pl12, tabs, q⟩ := h
    refine ⟨_, (pss_cons (ps_set (i := 2) sc_l_spoiled_right.nd rfl (.inr rfl) (pe_lc (own := [("_law_one", 9)]) (g := gName 9) (tt := tYes) rfl sc_l_spoiled_right.nd (pi_range1 (by rfl) B.range (pa_cons pe_int pa_nil)) (blkOk_by (N := N_l_spoiled_right) (sc := defScope s_l_spoiled_right) (by decide +kernel)) (fun _ _ _ _ _ => (pg_name (i := 9) sc_l_spoiled_right.nd rfl (.inl rfl))) (fun _ _ _ _ _ => pts_nil) (fun _ _ _ _ _ => (pe_op op_mul pe_int (pv 9)))))
    (pss_cons (ps_if (PW.pt (pw_or (pt_cmpR (r := rNeD K) (op_neD hr.units) (pe_calX (E := fun _ _ _ => False) c_evened hr passF (by rfl) (pa_cons (pv 2) (pa_cons (pe_tup (pa_cons pe_int (pa_cons pe_int pa_nil))) pa_nil))) (pe_op op_cat (pe_slice (r := rSlL K) sl_list (pv 2) po_none (po_some pe_int)) (pe_lst (pa_cons pe_int (pa_cons pe_int pa_nil)))) (nomark _)) (pw_or1 (pt_cmpR op_ne (pe_callB (r := rLenS K) call_len_seq (by rfl) B.len PySem.boot_len (pa_cons (pe_calX (E := fun _ _ _ => False) c_evenings hr passF (by rfl) (pa_cons (pv 2) pa_nil)) pa_nil)) pe_int (nomark _)))))
    (pss_one (ps_ret pe_bl))
    pss_nil)
    (pss_cons (ps_set (i := 3) sc_l_spoiled_right.nd rfl (.inr rfl) (pe_callTy (r := rListOf K) call_list_of (by rfl) B.list PyProof.Rows.boot_list (pa_cons (pv 2) pa_nil)))
    (pss_cons (ps_asg (pe_ix (r := rIxL K) ix_list (pe_lst (pa_cons pe_non (pa_cons pe_bl (pa_cons (pe_un un_neg pe_int) (pa_cons pe_int (pa_cons pe_str (pa_cons (pe_lst (pa_cons pe_int pa_nil)) pa_nil))))))) (pe_op op_mod (pv 1) pe_int) (fun _ _ => rfl)) (pg_sub (pv 3) (pv 0) set_list))
    (pss_cons (ps_for PassesOwn.never rfl (pi_tup (pe_tup (pa_cons (pe_glob (v := .ref f_evenings) (by rfl) g_evenings rfl) (pa_cons (pe_glob (v := .ref f_settled) (by rfl) g_settled rfl) (pa_cons (pe_glob (v := .ref f_alike) (by rfl) g_alike rfl) (pa_cons (pe_glob (v := .ref f_ends) (by rfl) g_ends rfl) (pa_cons (pe_glob (v := .ref f_fewest_most) (by rfl) g_fewest_most rfl) pa_nil))))))) (pg_name (i := 4) sc_l_spoiled_right.nd rfl (.inr rfl))
    (pss_one (ps_if (pt_kinds (b1 := true) (b2 := false) (.inl ⟨rfl, rfl, rfl⟩) hr.units (pe_kinds (T := T) (k := 93) (t := fun E => tCallAX 4 (S6 K CB CA CN f_evenings f_settled f_alike f_ends f_fewest_most) E (tCons (tVar 3) tNil)) Fk gk Fk.kp bk hB hE hG hV B.isi D (by rfl) TB rfl hm hu hr (LamX.lamS_by (by show LamX.lamSB (defScope s_l_spoiled_right) _ = true; decide +kernel)) rfl (fun _ _ _ _ _ => rfl) (fun A outer s H E f c2 hr2 => pe_callAX (i := 4) A1 hr2 (passes_call (takes_of rfl rfl rfl rfl) (fun _ _ _ _ h => h)) rfl (.inr (.inr rfl)) (pa_cons (pv 3) pa_nil))) (pe_lst (pa_cons pe_bl (pa_cons pe_bl (pa_cons pe_bl pa_nil)))) (nomark _))
      (pss_one (ps_ret pe_bl))
      pss_nil)))
    (pss_cons (ps_set (i := 5) sc_l_spoiled_right.nd rfl (.inr rfl) (pe_lst (pa_cons pe_int (pa_cons pe_int (pa_cons pe_int (pa_cons pe_int (pa_cons pe_int pa_nil)))))))
    (pss_cons (ps_asg (pe_ix (r := rIxL K) ix_list (pe_lst (pa_cons pe_int (pa_cons (pe_un un_neg pe_int) (pa_cons pe_bl (pa_cons pe_non (pa_cons pe_str (pa_cons pe_int pa_nil))))))) (pe_op op_mod (pv 1) pe_int) (fun _ _ => rfl)) (pg_sub (pv 5) (pe_op op_mod (pv 0) pe_int) set_list))
    (pss_cons (ps_for PassesOwn.never rfl (pi_tup (pe_tup (pa_cons (pe_glob (v := .ref f_alike) (by rfl) g_alike rfl) (pa_cons (pe_glob (v := .ref f_ends) (by rfl) g_ends rfl) (pa_cons (pe_glob (v := .ref f_fewest_most) (by rfl) g_fewest_most rfl) pa_nil))))) (pg_name (i := 4) sc_l_spoiled_right.nd rfl (.inr rfl))
    (pss_one (ps_if (pt_kinds (b1 := true) (b2 := false) (.inl ⟨rfl, rfl, rfl⟩) hr.units (pe_kinds (T := T) (k := 93) (t := fun E => tCallAX 4 (S6 K CB CA CN f_evenings f_settled f_alike f_ends f_fewest_most) E (tCons (tVar 5) tNil)) Fk gk Fk.kp bk hB hE hG hV B.isi D (by rfl) TB rfl hm hu hr (LamX.lamS_by (by show LamX.lamSB (defScope s_l_spoiled_right) _ = true; decide +kernel)) rfl (fun _ _ _ _ _ => rfl) (fun A outer s H E f c2 hr2 => pe_callAX (i := 4) A1 hr2 (passes_call (takes_of rfl rfl rfl rfl) (fun _ _ _ _ h => h)) rfl (.inr (.inr rfl)) (pa_cons (pv 5) pa_nil))) (pe_lst (pa_cons pe_bl (pa_cons pe_bl (pa_cons pe_bl pa_nil)))) (nomark _))
      (pss_one (ps_ret pe_bl))
      pss_nil)))
    (pss_cons (ps_set (i := 6) sc_l_spoiled_right.nd rfl (.inl rfl) (pe_lst (pa_cons (pe_tup (pa_cons pe_int (pa_cons pe_int pa_nil))) (pa_cons (pe_tup (pa_cons pe_int (pa_cons pe_int pa_nil))) (pa_cons (pe_tup (pa_cons pe_int (pa_cons pe_int pa_nil))) (pa_cons (pe_tup (pa_cons (pe_un un_neg pe_int) (pa_cons pe_int pa_nil))) (pa_cons (pe_tup (pa_cons (pv 0) (pa_cons (pv 0) pa_nil))) (pa_cons (pe_tup (pa_cons pe_int (pa_cons pe_bl pa_nil))) (pa_cons (pe_tup (pa_cons pe_bl (pa_cons pe_int pa_nil))) (pa_cons (pe_tup (pa_cons pe_bl (pa_cons pe_bl pa_nil))) (pa_cons (pe_tup (pa_cons pe_bl (pa_cons pe_int pa_nil))) pa_nil)))))))))))
    (pss_cons (ps_for PassesOwn.never rfl (pi_list (pe_op op_cat (pv 6) (pe_lst (pa_cons pe_non (pa_cons (pe_tup (pa_cons pe_int pa_nil)) (pa_cons (pe_lst (pa_cons pe_int (pa_cons pe_int pa_nil))) (pa_cons (pe_tup (pa_cons pe_int (pa_cons pe_int (pa_cons pe_int pa_nil)))) (pa_cons (pe_tup (pa_cons pe_str (pa_cons pe_int pa_nil))) (pa_cons (pe_tup (pa_cons pe_int (pa_cons pe_non pa_nil))) pa_nil))))))))) (pg_name (i := 7) sc_l_spoiled_right.nd rfl (.inr rfl))
    (pss_one (ps_for PassesOwn.never rfl (pi_tup (pe_tup (pa_cons (pe_glob (v := .ref f_evened) (by rfl) g_evened rfl) (pa_cons (pe_glob (v := .ref f_fall) (by rfl) g_fall rfl) pa_nil)))) (pg_name (i := 4) sc_l_spoiled_right.nd rfl (.inr rfl))
      (pss_one (ps_if (pt_kinds (b1 := false) (b2 := true) (.inr ⟨rfl, rfl, rfl⟩) hr.units (pe_kinds (T := T) (k := 4) (t := fun E => tCallAX 4 (S2 K CB CE f_evened f_fall) E (tCons (tVar 2) (tCons (tVar 7) tNil))) Fk gk Fk.kp bk hB hE hG hV B.isi D (by rfl) TB rfl hm hu (hr.mono (by decide)) (LamX.lamS_by (by show LamX.lamSB (defScope s_l_spoiled_right) _ = true; decide +kernel)) rfl (fun _ _ _ _ _ => rfl) (fun A outer s H E f c2 hr2 => pe_callAX (i := 4) A2 hr2 (passes_call (takes_of rfl rfl rfl rfl) (fun _ _ _ _ h => h)) rfl (.inr (.inr rfl)) (pa_cons (pv 2) (pa_cons (pv 7) pa_nil)))) (pe_lst (pa_cons pe_bl (pa_cons pe_bl (pa_cons pe_bl pa_nil)))) (nomark _))
        (pss_one (ps_ret pe_bl))
        pss_nil)))))
    (pss_cons (ps_asg (pe_op op_add (pe_ix (r := rIxL K) ix_list (pv 2) (pv 0) (fun _ _ => rfl)) pe_int) (pg_sub (pv 2) (pv 0) set_list))
    (pss_cons (ps_set (i := 8) sc_l_spoiled_right.nd rfl (.inl rfl) (pe_ifExp (pt_cmpR op_gt (pv 0) pe_int (nomark _)) pe_int pe_int))
    (pss_cons (ps_set (i := 7) sc_l_spoiled_right.nd rfl (.inr rfl) (pe_tup (pa_cons (pe_callB (call_min2 rfl) (by rfl) B.min PyProof.Rows.boot_min (pa_cons (pv 0) (pa_cons (pv 8) pa_nil))) (pa_cons (pe_callB (call_max2 rfl) (by rfl) B.max PyProof.Rows.boot_max (pa_cons (pv 0) (pa_cons (pv 8) pa_nil))) pa_nil))))
    (pss_one (ps_ret (pe_kindsE (b1 := false) (b2 := true) (.inr ⟨rfl, rfl, rfl⟩) hr.units (pe_kinds (T := T) (k := 4) (t := fun E => tCall (sp_evenedX K CB CE) [] E (tCons (tVar 2) (tCons (tVar 7) tNil))) Fk gk Fk.kp bk hB hE hG hV B.isi D (by rfl) TB rfl hm hu (hr.mono (by decide)) (LamX.lamS_by (by show LamX.lamSB (defScope s_l_spoiled_right) _ = true; decide +kernel)) rfl (fun _ _ _ _ _ => rfl) (fun A outer s H E f c2 hr2 => pe_calX c_evened hr2 (passes_call (takes_of rfl rfl rfl rfl) (fun _ _ _ _ h => h)) (by rfl) (pa_cons (pv 2) (pa_cons (pv 7) pa_nil)))) (pe_lst (pa_cons pe_bl (pa_cons pe_bl (pa_cons pe_bl pa_nil)))) (nomark _))))))))))))))))), ?_⟩
    -- the row
    refine ⟨_, rfl, by decide, by decide, fun d hd => ?_⟩
    refine lc_range (fun i H' => Same H H' ∧ H' d = some (.lst ((R12.take i).map V.int))) ⟨same_new hd, upd_same⟩ (fun i H' hi h => ?_) (fun H1 h => ?_)
    · have hi : i < 12 := hi
      refine ⟨rfl, iteT (B := True) ⟨.int (0 + (i : Int)), rfl, _, _, rfl, rfl, .inl ⟨by decide, by decide⟩, ?_⟩⟩
      refine ⟨_, h.2, small1000 (by rw [List.length_map, List.length_take]; omega), same_upd2 h.1 hd, ?_⟩
      rw [upd_same, List.take_add_one, r12_at i hi, List.map_append]
      show some (HO.lst (_ ++ [V.int (2 * (0 + (i : Int)))])) = _
      rw [Int.zero_add]
      rfl
    obtain ⟨s1, h1⟩ := h
    have hL1 : Lst H1 d R12 := h1
    clear h1
    -- the last two
    refine ⟨.ref d, rfl, (by show 2 ≤ sizeLine; decide), fun t ht => .inl ⟨d, t, R12, (10, 11), rfl, hL1.mono (same_new ht), r12_ok, upd_same, r12_ev, fun H2 o s2 ho hO => ?_⟩⟩
    have s12 := (same_new (o := .tup [.int 10, .int 11]) ht).trans s2
    rw [r12_beh] at hO
    refine ⟨.ref d, rfl, 10, rfl, d, _, rfl, (hL1.mono s12).sq, fun sl hsl => ⟨(by show 2 ≤ sizeLine; decide), fun l2 hl2 => ?_⟩⟩
    rw [cut10] at hl2 ⊢
    have sa := same_new (o := .lst (([0, 2, 4, 6, 8, 10, 12, 14, 16, 18] : Rw).map V.int)) hsl
    have ha : (upd H2 sl (.lst (([0, 2, 4, 6, 8, 10, 12, 14, 16, 18] : Rw).map V.int))) sl = some (.lst (([0, 2, 4, 6, 8, 10, 12, 14, 16, 18] : Rw).map V.int)) := upd_same
    generalize upd H2 sl (.lst (([0, 2, 4, 6, 8, 10, 12, 14, 16, 18] : Rw).map V.int)) = H3 at sa ha hl2 ⊢
    have sb := same_new (o := .lst [.int 21, .int 21]) hl2
    have hb : (upd H3 l2 (.lst [.int 21, .int 21])) l2 = some (.lst [.int 21, .int 21]) := upd_same
    generalize upd H3 l2 (.lst [.int 21, .int 21]) = H4 at sb hb ⊢
    refine ⟨sl, l2, _, _, rfl, rfl, sb _ _ ha, hb, (by show 10 + 2 ≤ sizeLine; decide), fun l3 hl3 => ?_⟩
    have scc : Same H4 (upd H4 l3 (.lst (([0, 2, 4, 6, 8, 10, 12, 14, 16, 18] : Rw).map V.int ++ [.int 21, .int 21]))) := same_new hl3
    have hcc : Lst (upd H4 l3 (.lst (([0, 2, 4, 6, 8, 10, 12, 14, 16, 18] : Rw).map V.int ++ [.int 21, .int 21]))) l3 [0, 2, 4, 6, 8, 10, 12, 14, 16, 18, 21, 21] := upd_same
    generalize upd H4 l3 (.lst (([0, 2, 4, 6, 8, 10, 12, 14, 16, 18] : Rw).map V.int ++ [.int 21, .int 21])) = H5 at scc hcc ⊢
    have s25 := (sa.trans sb).trans scc
    refine ⟨rowD [0, 2, 4, 6, 8, 10, 12, 14, 16, 18, 21, 21], rowD [0, 2, 4, 6, 8, 10, 12, 14, 16, 18, 21, 21], dp_row' (hO.mono s25), dp_row' hcc, shaped_row _, shaped_row _, _, rfl, itN (nq_row _) ?_⟩
    have s15 := s12.trans s25
    refine ⟨.ref d, rfl, .inl ⟨d, R12, rfl, hL1.mono s15, r12_ok, fun H6 p ws s6 hp hws pr => ⟨p, _, rfl, .inl (SqL.of hws), rfl, _, rfl, itN (by rw [dec_int, pd_len pr, r12_66]; decide) ?_⟩⟩⟩
    have s16 := s15.trans s6
    have s06 := s1.trans s16
    have hL6 := hL1.mono s16
    clear s2 ho hO sa ha sb hb scc hcc s25 s15 s6 hp hws pr s16 s12 ht hsl hl2 hl3 s1
    -- one strange
    refine ⟨.ref d, rfl, d, _, rfl, .inl hL6.sq, fun b hb => ?_⟩
    have sb : Same H6 (upd H6 b (.lst (R12.map V.int))) := same_new hb
    have hb1 : (upd H6 b (.lst (R12.map V.int))) b = some (.lst (R12.map V.int)) := upd_same
    have hbH : H b = none := s06.free hb
    have s07 := s06.trans sb
    generalize upd H6 b (.lst (R12.map V.int)) = H7 at sb hb1 s07 ⊢
    have hL7 := hL6.mono sb
    obtain ⟨k, ek, k6⟩ : ∃ k : Nat, z % 6 = (k : Int) ∧ k < 6 := ⟨(z % 6).toNat, by omega, by omega⟩
    refine ⟨_, rfl, (by show 1 ≤ sizeLine; decide), fun li hli => ⟨(by show 6 ≤ sizeLine; decide), fun lx hlx => ?_⟩⟩
    have sc1 := same_new (o := .lst [.int 1]) hli
    have hli1 : (upd H7 li (.lst [.int 1])) li = some (.lst [.int 1]) := upd_same
    generalize upd H7 li (.lst [.int 1]) = H8 at sc1 hli1 hlx ⊢
    have sc2 := same_new (o := .lst [.non, .bl true, .int (-1), .int 1000001, .str "1", .ref li]) hlx
    have hlx1 : (upd H8 lx (.lst [.non, .bl true, .int (-1), .int 1000001, .str "1", .ref li])) lx = some (.lst [.non, .bl true, .int (-1), .int 1000001, .str "1", .ref li]) := upd_same
    have outs : ∀ x ∈ [V.non, .bl true, .int (-1), .int 1000001, .str "1", .ref li], Out K (upd H8 lx (.lst [.non, .bl true, .int (-1), .int 1000001, .str "1", .ref li])) 1000000 x ∧ ∀ a, x = .ref a → a = li := fun x hx => by
      simp only [List.mem_cons, List.not_mem_nil, or_false] at hx
      rcases hx with rfl | rfl | rfl | rfl | rfl | rfl
      · exact ⟨.inl wh_non, fun a e => nomatch e⟩
      · exact ⟨.inl (wh_bl _), fun a e => nomatch e⟩
      · exact ⟨.inr ⟨_, rfl, by decide⟩, fun a e => nomatch e⟩
      · exact ⟨.inr ⟨_, rfl, by decide⟩, fun a e => nomatch e⟩
      · exact ⟨.inl (wh_str _), fun a e => nomatch e⟩
      · exact ⟨.inl (wh_lst (sc2 _ _ hli1)), fun a e => by cases e; rfl⟩
    generalize upd H8 lx (.lst [.non, .bl true, .int (-1), .int 1000001, .str "1", .ref li]) = H9 at sc2 hlx1 outs ⊢
    have s79 := sc1.trans sc2
    obtain ⟨x, hx⟩ : ∃ x, [V.non, .bl true, .int (-1), .int 1000001, .str "1", .ref li][k]? = some x := ⟨_, List.getElem?_eq_getElem (show k < 6 from k6)⟩
    obtain ⟨outx, refx⟩ := outs x (List.mem_of_getElem? hx)
    have nbl : b ≠ li := (ne_of_none hb1 hli)
    refine ⟨.int z, rfl, _, _, rfl, rfl, (by show (0 : Int) < 6; decide), lx, _, _, x, rfl, rfl, SqL.of hlx1, at_of ek hx, ?_⟩
    have hb9 := s79 _ _ hb1
    refine ⟨.ref b, rfl, .int (pl : Int), rfl, b, _, _, pl, rfl, rfl, hb9, ixN_at pl12, ?_⟩
    have sA : Same H6 (upd H9 b (.lst ((R12.map V.int).set pl x))) := same_upd2 (sb.trans s79) hb
    have hbA : (upd H9 b (.lst ((R12.map V.int).set pl x))) b = some (.lst ((R12.map V.int).set pl x)) := upd_same
    have outA : Out K (upd H9 b (.lst ((R12.map V.int).set pl x))) 1000000 x := by
      rcases outx with h | h
      · refine .inl (h.at fun c o e h2 _ => ?_)
        have := refx c e
        rw [upd_ne (by rw [this]; exact nbl.symm)]
        exact h2
      · exact .inr h
    generalize upd H9 b (.lst ((R12.map V.int).set pl x)) = HA at sA hbA outA ⊢
    have sHA := s06.trans sA
    have tA := tabs.ext sHA
    have hLA := hL6.mono sA
    have bad12 : RowBad K HA 12 1000000 (.ref b) := bad_set hbA pl12 (by decide) (by decide) (by decide) outA
    have bad5 : RowBad K HA 5 20 (.ref b) := bad_len hbA (by rw [List.length_set, List.length_map]; decide) (by rw [List.length_set, List.length_map]; decide)
    clear outs outx refx nbl hb9 s79 sc1 sc2 hli1 hlx1 hlx hli sb hb1 s07 hL7 outA sA hL6 s06 hb hx tabs
    refine ⟨(by show 5 ≤ sizeLine; decide), fun t1 ht1 => ?_⟩
    have sB := same_new (o := .tup [.ref f_evenings, .ref f_settled, .ref f_alike, .ref f_ends, .ref f_fewest_most]) ht1
    have htB : (upd HA t1 (.tup [.ref f_evenings, .ref f_settled, .ref f_alike, .ref f_ends, .ref f_fewest_most])) t1 = some (.tup [.ref f_evenings, .ref f_settled, .ref f_alike, .ref f_ends, .ref f_fewest_most]) := upd_same
    generalize upd HA t1 (.tup [.ref f_evenings, .ref f_settled, .ref f_alike, .ref f_ends, .ref f_fewest_most]) = HB at sB htB ⊢
    refine ⟨t1, rfl, ⟨_, SqT.of htB⟩, for_tup (K := K) (a := t1) (xs := [.ref f_evenings, .ref f_settled, .ref f_alike, .ref f_ends, .ref f_fewest_most])
      (fun _ σ H' => ∃ y4, σ = [some (.int (pl : Int)), some (.int z), some (.ref d), some (.ref b), y4, none, none, none, none, none] ∧ LamX.ExtN HB H' ∧ LamX.Tabs T H')
      ⟨_, rfl, LamX.ExtN.refl _, tA.ext sB⟩ (fun i σ H' _ h => ?_) (fun i y σ HC hy h => ?_) (fun σ HC h => ?_)⟩
    · obtain ⟨_, _, e, _⟩ := h
      exact SqT.of (e _ _ htB (fun _ z => nomatch z))
    · obtain ⟨y4, rfl, eC, tC⟩ := h
      refine ⟨tC, fun H2 e2 E2 Q2 hE2 => ?_, fun H5 e5 t5 => iteF ⟨_, rfl, eC.trans e5, t5⟩⟩
      have b12 := ((bad12.mono sB).ext eC).ext e2
      have b5 := ((bad5.mono sB).ext eC).ext e2
      have hy' := List.mem_of_getElem? hy
      simp only [List.mem_cons, List.not_mem_nil, or_false] at hy'
      rcases hy' with rfl | rfl | rfl | rfl | rfl
      · exact ⟨_, _, rfl, .inl ⟨rfl, rfl⟩, .ref b, rfl, .inr ⟨_, rfl, b12, hE2⟩⟩
      · exact ⟨_, _, rfl, .inr (.inl ⟨rfl, rfl⟩), .ref b, rfl, .inr ⟨_, rfl, b12, hE2⟩⟩
      · exact ⟨_, _, rfl, .inr (.inr (.inl ⟨rfl, rfl⟩)), .ref b, rfl, .inr ⟨_, rfl, b5, hE2⟩⟩
      · exact ⟨_, _, rfl, .inr (.inr (.inr (.inl ⟨rfl, rfl⟩))), .ref b, rfl, .inr ⟨_, rfl, b5, hE2⟩⟩
      · exact ⟨_, _, rfl, .inr (.inr (.inr (.inr ⟨rfl, rfl⟩))), .ref b, rfl, .inr ⟨_, rfl, b5, hE2⟩⟩
    obtain ⟨y4, rfl, eC, tC⟩ := h
    have eAC := (LamX.ExtN.of sB).trans eC
    have eHC := (LamX.ExtN.of sHA).trans eAC
    have hLC : Lst HC d R12 := eAC _ _ hLA (fun _ z => nomatch z)
    clear bad12 bad5 sB htB eC eAC ht1 hbA tA sHA hLA
    -- five, one strange
    refine ⟨(by show 5 ≤ sizeLine; decide), fun v5 hv5 => ?_⟩
    have s5 : Same HC (upd HC v5 (.lst (([1, 2, 3, 4, 5] : Rw).map V.int))) := same_new hv5
    have h51 : (upd HC v5 (.lst (([1, 2, 3, 4, 5] : Rw).map V.int))) v5 = some (.lst (([1, 2, 3, 4, 5] : Rw).map V.int)) := upd_same
    have e51 : upd HC v5 (.lst [.int 1, .int 2, .int 3, .int 4, .int 5]) = upd HC v5 (.lst (([1, 2, 3, 4, 5] : Rw).map V.int)) := rfl
    rw [e51]
    generalize upd HC v5 (.lst (([1, 2, 3, 4, 5] : Rw).map V.int)) = H7 at s5 h51 ⊢
    refine ⟨_, rfl, (by show 6 ≤ sizeLine; decide), fun lx hlx => ?_⟩
    have sc2 := same_new (o := .lst [.int 21, .int (-1), .bl true, .non, .str "2", .int 1000000]) hlx
    have hlx1 : (upd H7 lx (.lst [.int 21, .int (-1), .bl true, .non, .str "2", .int 1000000])) lx = some (.lst [.int 21, .int (-1), .bl true, .non, .str "2", .int 1000000]) := upd_same
    generalize upd H7 lx (.lst [.int 21, .int (-1), .bl true, .non, .str "2", .int 1000000]) = H9 at sc2 hlx1 ⊢
    have outs : ∀ H, ∀ x ∈ [V.int 21, .int (-1), .bl true, .non, .str "2", .int 1000000], Out K H 20 x := fun H x hx => by
      simp only [List.mem_cons, List.not_mem_nil, or_false] at hx
      rcases hx with rfl | rfl | rfl | rfl | rfl | rfl
      · exact .inr ⟨_, rfl, by decide⟩
      · exact .inr ⟨_, rfl, by decide⟩
      · exact .inl (wh_bl _)
      · exact .inl wh_non
      · exact .inl (wh_str _)
      · exact .inr ⟨_, rfl, by decide⟩
    obtain ⟨x5, hx5⟩ : ∃ x, [V.int 21, .int (-1), .bl true, .non, .str "2", .int 1000000][k]? = some x := ⟨_, List.getElem?_eq_getElem (show k < 6 from k6)⟩
    obtain ⟨p5, ep5, p55⟩ : ∃ p5 : Nat, (pl : Int) % 5 = (p5 : Int) ∧ p5 < 5 := ⟨pl % 5, by omega, by omega⟩
    refine ⟨.int z, rfl, _, _, rfl, rfl, (by show (0 : Int) < 6; decide), lx, _, _, x5, rfl, rfl, SqL.of hlx1, at_of ek hx5, ?_⟩
    refine ⟨.ref v5, rfl, .int (pl : Int), rfl, _, _, rfl, rfl, (by show (0 : Int) < 5; decide), v5, _, _, p5, rfl, rfl, sc2 _ _ h51, by rw [ep5]; exact ixN_at p55, ?_⟩
    have sA : Same HC (upd H9 v5 (.lst ((([1, 2, 3, 4, 5] : Rw).map V.int).set p5 x5))) := same_upd2 (s5.trans sc2) hv5
    have hbA : (upd H9 v5 (.lst ((([1, 2, 3, 4, 5] : Rw).map V.int).set p5 x5))) v5 = some (.lst ((([1, 2, 3, 4, 5] : Rw).map V.int).set p5 x5)) := upd_same
    generalize upd H9 v5 (.lst ((([1, 2, 3, 4, 5] : Rw).map V.int).set p5 x5)) = HA at sA hbA ⊢
    have bad5 : RowBad K HA 5 20 (.ref v5) := bad_set hbA p55 (by decide) (by decide) (by decide) (outs _ _ (List.mem_of_getElem? hx5))
    have tA := tC.ext sA
    have hLA := hLC.mono sA
    have eHA := eHC.trans (.of sA)
    clear sc2 hlx1 hlx s5 h51 hv5 sA hbA outs hx5 ep5 tC hLC eHC e51
    refine ⟨(by show 3 ≤ sizeLine; decide), fun t1 ht1 => ?_⟩
    have sB := same_new (o := .tup [.ref f_alike, .ref f_ends, .ref f_fewest_most]) ht1
    have htB : (upd HA t1 (.tup [.ref f_alike, .ref f_ends, .ref f_fewest_most])) t1 = some (.tup [.ref f_alike, .ref f_ends, .ref f_fewest_most]) := upd_same
    generalize upd HA t1 (.tup [.ref f_alike, .ref f_ends, .ref f_fewest_most]) = HB at sB htB ⊢
    refine ⟨t1, rfl, ⟨_, SqT.of htB⟩, for_tup (K := K) (a := t1) (xs := [.ref f_alike, .ref f_ends, .ref f_fewest_most])
      (fun _ σ H' => ∃ y4, σ = [some (.int (pl : Int)), some (.int z), some (.ref d), some (.ref b), y4, some (.ref v5), none, none, none, none] ∧ LamX.ExtN HB H' ∧ LamX.Tabs T H')
      ⟨_, rfl, LamX.ExtN.refl _, tA.ext sB⟩ (fun i σ H' _ h => ?_) (fun i y σ HC hy h => ?_) (fun σ HD h => ?_)⟩
    · obtain ⟨_, _, e, _⟩ := h
      exact SqT.of (e _ _ htB (fun _ z => nomatch z))
    · obtain ⟨y4, rfl, eC, tC⟩ := h
      refine ⟨tC, fun H2 e2 E2 Q2 hE2 => ?_, fun H5 e5 t5 => iteF ⟨_, rfl, eC.trans e5, t5⟩⟩
      have b5 := ((bad5.mono sB).ext eC).ext e2
      have hy' := List.mem_of_getElem? hy
      simp only [List.mem_cons, List.not_mem_nil, or_false] at hy'
      rcases hy' with rfl | rfl | rfl
      · exact ⟨_, _, rfl, .inr (.inr (.inl ⟨rfl, rfl⟩)), .ref v5, rfl, .inr ⟨_, rfl, b5, hE2⟩⟩
      · exact ⟨_, _, rfl, .inr (.inr (.inr (.inl ⟨rfl, rfl⟩))), .ref v5, rfl, .inr ⟨_, rfl, b5, hE2⟩⟩
      · exact ⟨_, _, rfl, .inr (.inr (.inr (.inr ⟨rfl, rfl⟩))), .ref v5, rfl, .inr ⟨_, rfl, b5, hE2⟩⟩
    obtain ⟨y4', rfl, eD, tD⟩ := h
    have eAD := (LamX.ExtN.of sB).trans eD
    have eHD := eHA.trans eAD
    have hLD : Lst HD d R12 := eAD _ _ hLA (fun _ z => nomatch z)
    clear bad5 sB htB eD eAD ht1 tA eHA hLA
    -- pairs
    refine ⟨(by show 2 ≤ sizeLine; decide), fun a1 h1 => ⟨(by show 2 ≤ sizeLine; decide), fun a2 h2 => ⟨(by show 2 ≤ sizeLine; decide), fun a3 h3 => ⟨_, rfl, (by show 2 ≤ sizeLine; decide), fun a4 h4 => ⟨.int (pl : Int), rfl, .int (pl : Int), rfl, (by show 2 ≤ sizeLine; decide), fun a5 h5 => ⟨(by show 2 ≤ sizeLine; decide), fun a6 h6 => ⟨(by show 2 ≤ sizeLine; decide), fun a7 h7 => ⟨(by show 2 ≤ sizeLine; decide), fun a8 h8 => ⟨(by show 2 ≤ sizeLine; decide), fun a9 h9 => ⟨(by show 9 ≤ sizeLine; decide), fun L1 hL1 => ?_⟩⟩⟩⟩⟩⟩⟩⟩⟩⟩
    have c1 := same_new (o := .tup [.int 11, .int 10]) h1
    have e1 : (upd HD a1 (.tup [.int 11, .int 10])) a1 = some (.tup [.int 11, .int 10]) := upd_same
    generalize upd HD a1 (.tup [.int 11, .int 10]) = G1 at c1 e1 h2 h3 h4 h5 h6 h7 h8 h9 hL1 ⊢
    have c2 := same_new (o := .tup [.int 11, .int 12]) h2
    have e2 : (upd G1 a2 (.tup [.int 11, .int 12])) a2 = some (.tup [.int 11, .int 12]) := upd_same
    generalize upd G1 a2 (.tup [.int 11, .int 12]) = G2 at c2 e2 h3 h4 h5 h6 h7 h8 h9 hL1 ⊢
    have c3 := same_new (o := .tup [.int 0, .int 12]) h3
    have e3 : (upd G2 a3 (.tup [.int 0, .int 12])) a3 = some (.tup [.int 0, .int 12]) := upd_same
    generalize upd G2 a3 (.tup [.int 0, .int 12]) = G3 at c3 e3 h4 h5 h6 h7 h8 h9 hL1 ⊢
    have c4 := same_new (o := .tup [.int (-12), .int 1]) h4
    have e4 : (upd G3 a4 (.tup [.int (-12), .int 1])) a4 = some (.tup [.int (-12), .int 1]) := upd_same
    generalize upd G3 a4 (.tup [.int (-12), .int 1]) = G4 at c4 e4 h5 h6 h7 h8 h9 hL1 ⊢
    have c5 := same_new (o := .tup [.int (pl : Int), .int (pl : Int)]) h5
    have e5 : (upd G4 a5 (.tup [.int (pl : Int), .int (pl : Int)])) a5 = some (.tup [.int (pl : Int), .int (pl : Int)]) := upd_same
    generalize upd G4 a5 (.tup [.int (pl : Int), .int (pl : Int)]) = G5 at c5 e5 h6 h7 h8 h9 hL1 ⊢
    have c6 := same_new (o := .tup [.int 0, .bl true]) h6
    have e6 : (upd G5 a6 (.tup [.int 0, .bl true])) a6 = some (.tup [.int 0, .bl true]) := upd_same
    generalize upd G5 a6 (.tup [.int 0, .bl true]) = G6 at c6 e6 h7 h8 h9 hL1 ⊢
    have c7 := same_new (o := .tup [.bl true, .int 2]) h7
    have e7 : (upd G6 a7 (.tup [.bl true, .int 2])) a7 = some (.tup [.bl true, .int 2]) := upd_same
    generalize upd G6 a7 (.tup [.bl true, .int 2]) = G7 at c7 e7 h8 h9 hL1 ⊢
    have c8 := same_new (o := .tup [.bl false, .bl true]) h8
    have e8 : (upd G7 a8 (.tup [.bl false, .bl true])) a8 = some (.tup [.bl false, .bl true]) := upd_same
    generalize upd G7 a8 (.tup [.bl false, .bl true]) = G8 at c8 e8 h9 hL1 ⊢
    have c9 := same_new (o := .tup [.bl false, .int 2]) h9
    have e9 : (upd G8 a9 (.tup [.bl false, .int 2])) a9 = some (.tup [.bl false, .int 2]) := upd_same
    generalize upd G8 a9 (.tup [.bl false, .int 2]) = G9 at c9 e9 hL1 ⊢
    have d8 := c8.trans c9
    have d7 := c7.trans d8
    have d6 := c6.trans d7
    have d5 := c5.trans d6
    have d4 := c4.trans d5
    have d3 := c3.trans d4
    have d2 := c2.trans d3
    have ibad : ∀ {H : Hp} {e : Addr} {a b : Int}, H e = some (.tup [.int a, .int b]) → ¬ (0 ≤ a ∧ a < b ∧ b < 12) → PairBad K H R12 (.ref e) := fun h n => .inr ⟨_, _, rfl, h, .inr (.inr ⟨(_, _), rfl, not_ev (ns := R12) n⟩)⟩
    have wbad : ∀ {H : Hp} {e : Addr} {x y : V} {b1 b2 : Bool}, H e = some (.tup [x, y]) → Wh K H x b1 → Wh K H y b2 → (b1 && b2) = false → PairBad K H R12 (.ref e) := fun {H e x y b1 b2} h h1 h2 n => .inr ⟨_, _, rfl, h, .inr (.inl ⟨rfl, [b1, b2], .cons h1 (.cons h2 .nil), by cases b1 <;> cases b2 <;> first | rfl | cases n⟩)⟩
    have pb1 : ∀ v ∈ [V.ref a1, .ref a2, .ref a3, .ref a4, .ref a5, .ref a6, .ref a7, .ref a8, .ref a9], PairBad K G9 R12 v := fun v hv => by
      simp only [List.mem_cons, List.not_mem_nil, or_false] at hv
      rcases hv with rfl | rfl | rfl | rfl | rfl | rfl | rfl | rfl | rfl
      · exact ibad (d2 _ _ e1) (by decide)
      · exact ibad (d3 _ _ e2) (by decide)
      · exact ibad (d4 _ _ e3) (by decide)
      · exact ibad (d5 _ _ e4) (by decide)
      · exact ibad (d6 _ _ e5) (by omega)
      · exact wbad (d7 _ _ e6) (Wh.int 0) (wh_bl true).wh rfl
      · exact wbad (d8 _ _ e7) (wh_bl true).wh (Wh.int 2) rfl
      · exact wbad (c9 _ _ e8) (wh_bl false).wh (wh_bl true).wh rfl
      · exact wbad e9 (wh_bl false).wh (Wh.int 2) rfl
    have sG9 := c1.trans d2
    clear c1 c2 c3 c4 c5 c6 c7 c8 c9 d2 d3 d4 d5 d6 d7 d8 e1 e2 e3 e4 e5 e6 e7 e8 e9 h1 h2 h3 h4 h5 h6 h7 h8 h9
    generalize hPS : [V.ref a1, .ref a2, .ref a3, .ref a4, .ref a5, .ref a6, .ref a7, .ref a8, .ref a9] = PS at pb1
    have lPS : PS.length = 9 := by rw [← hPS]; rfl
    have cL := same_new (o := .lst PS) hL1
    have eL : (upd G9 L1 (.lst PS)) L1 = some (.lst PS) := upd_same
    have pbL : ∀ v ∈ PS, PairBad K (upd G9 L1 (.lst PS)) R12 v := fun v hv => (pb1 v hv).mono cL
    have sGL := sG9.trans cL
    generalize upd G9 L1 (.lst PS) = GL at cL eL pbL sGL ⊢
    refine ⟨.ref L1, rfl, (by show 1 ≤ sizeLine; decide), fun a1 h1 => ⟨(by show 2 ≤ sizeLine; decide), fun l0 h2 => ⟨(by show 3 ≤ sizeLine; decide), fun a3 h3 => ⟨(by show 2 ≤ sizeLine; decide), fun a4 h4 => ⟨(by show 2 ≤ sizeLine; decide), fun a5 h5 => ⟨(by show 6 ≤ sizeLine; decide), fun L2 hL2 => ?_⟩⟩⟩⟩⟩⟩
    have c1 := same_new (o := .tup [.int 0]) h1
    have e1 : (upd GL a1 (.tup [.int 0])) a1 = some (.tup [.int 0]) := upd_same
    generalize upd GL a1 (.tup [.int 0]) = K1 at c1 e1 h2 h3 h4 h5 hL2 ⊢
    have c2 := same_new (o := .lst [.int 0, .int 1]) h2
    have e2 : (upd K1 l0 (.lst [.int 0, .int 1])) l0 = some (.lst [.int 0, .int 1]) := upd_same
    generalize upd K1 l0 (.lst [.int 0, .int 1]) = K2 at c2 e2 h3 h4 h5 hL2 ⊢
    have c3 := same_new (o := .tup [.int 0, .int 1, .int 2]) h3
    have e3 : (upd K2 a3 (.tup [.int 0, .int 1, .int 2])) a3 = some (.tup [.int 0, .int 1, .int 2]) := upd_same
    generalize upd K2 a3 (.tup [.int 0, .int 1, .int 2]) = K3 at c3 e3 h4 h5 hL2 ⊢
    have c4 := same_new (o := .tup [.str "0", .int 1]) h4
    have e4 : (upd K3 a4 (.tup [.str "0", .int 1])) a4 = some (.tup [.str "0", .int 1]) := upd_same
    generalize upd K3 a4 (.tup [.str "0", .int 1]) = K4 at c4 e4 h5 hL2 ⊢
    have c5 := same_new (o := .tup [.int 0, .non]) h5
    have e5 : (upd K4 a5 (.tup [.int 0, .non])) a5 = some (.tup [.int 0, .non]) := upd_same
    generalize upd K4 a5 (.tup [.int 0, .non]) = K5 at c5 e5 hL2 ⊢
    have d4 := c4.trans c5
    have d3 := c3.trans d4
    have d2 := c2.trans d3
    have d1 := c1.trans d2
    have c6 := same_new (o := .lst [.non, .ref a1, .ref l0, .ref a3, .ref a4, .ref a5]) hL2
    have e6 : (upd K5 L2 (.lst [.non, .ref a1, .ref l0, .ref a3, .ref a4, .ref a5])) L2 = some (.lst [.non, .ref a1, .ref l0, .ref a3, .ref a4, .ref a5]) := upd_same
    have pb2 : ∀ v ∈ PS ++ [V.non, .ref a1, .ref l0, .ref a3, .ref a4, .ref a5], PairBad K (upd K5 L2 (.lst [.non, .ref a1, .ref l0, .ref a3, .ref a4, .ref a5])) R12 v := fun v hv => by
      rcases List.mem_append.mp hv with hv | hv
      · exact ((pbL v hv).mono d1).mono c6
      · refine PairBad.mono c6 ?_
        simp only [List.mem_cons, List.not_mem_nil, or_false] at hv
        rcases hv with rfl | rfl | rfl | rfl | rfl | rfl
        · exact .inl (.of (fun _ _ => .base .non) (kit_ty (by decide +kernel)))
        · exact .inr ⟨_, _, rfl, d2 _ _ e1, .inl (by decide)⟩
        · exact .inl (.of (fun _ s => .base (.lst (s _ _ (d3 _ _ e2) (fun _ z => nomatch z)))) (kit_ty (by decide +kernel)))
        · exact .inr ⟨_, _, rfl, d4 _ _ e3, .inl (by decide)⟩
        · exact wbad (c5 _ _ e4) (wh_str _).wh (Wh.int 1) rfl
        · exact wbad e5 (Wh.int 0) wh_non.wh rfl
    have s16 := d1.trans c6
    generalize upd K5 L2 (.lst [.non, .ref a1, .ref l0, .ref a3, .ref a4, .ref a5]) = K6 at c6 e6 pb2 s16 ⊢
    refine ⟨L1, L2, PS, _, rfl, rfl, s16 _ _ eL, e6, (by rw [lPS]; show 9 + 6 ≤ sizeLine; decide), fun L3 hL3 => ?_⟩
    have c7 := same_new (o := .lst (PS ++ [.non, .ref a1, .ref l0, .ref a3, .ref a4, .ref a5])) hL3
    have e7 : (upd K6 L3 (.lst (PS ++ [.non, .ref a1, .ref l0, .ref a3, .ref a4, .ref a5]))) L3 = some (.lst (PS ++ [.non, .ref a1, .ref l0, .ref a3, .ref a4, .ref a5])) := upd_same
    have pb7 : ∀ v ∈ PS ++ [V.non, .ref a1, .ref l0, .ref a3, .ref a4, .ref a5], PairBad K (upd K6 L3 (.lst (PS ++ [.non, .ref a1, .ref l0, .ref a3, .ref a4, .ref a5]))) R12 v := fun v hv => (pb2 v hv).mono c7
    have sD7 := (sGL.trans s16).trans c7
    generalize upd K6 L3 (.lst (PS ++ [.non, .ref a1, .ref l0, .ref a3, .ref a4, .ref a5])) = K7 at c7 e7 pb7 sD7 ⊢
    generalize PS ++ [V.non, .ref a1, .ref l0, .ref a3, .ref a4, .ref a5] = PP at e7 pb7 ⊢
    have t7 := tD.ext sD7
    have hL7 := hLD.mono sD7
    have eH7 := eHD.trans (.of sD7)
    clear c1 c2 c3 c4 c5 c6 c7 d1 d2 d3 d4 e1 e2 e3 e4 e5 e6 h1 h2 h3 h4 h5 hL1 hL2 hL3 pb1 pb2 pbL eL s16 sGL sG9 cL hPS sD7 tD hLD eHD
    refine ⟨L3, rfl, ⟨_, SqL.of e7⟩, for_list (K := K) (a := L3) (xs := PP)
      (fun _ σ H' => ∃ y4 y7, σ = [some (.int (pl : Int)), some (.int z), some (.ref d), some (.ref b), y4, some (.ref v5), some (.ref L1), y7, none, none] ∧ LamX.ExtN K7 H' ∧ LamX.Tabs T H')
      ⟨_, _, rfl, LamX.ExtN.refl _, t7⟩ (fun i σ H' _ h => ?_) (fun i x σ HA hx h => ?_) (fun σ HA h => ?_)⟩
    · obtain ⟨_, _, _, e, _⟩ := h
      exact SqL.of (e _ _ e7 (fun _ z => nomatch z))
    · obtain ⟨y4, y7, rfl, eA, tA⟩ := h
      have bx := (pb7 x (List.mem_of_getElem? hx)).ext eA
      refine ⟨(by show 2 ≤ sizeLine; decide), fun tb htb => ?_⟩
      have sB := same_new (o := .tup [.ref f_evened, .ref f_fall]) htb
      have hTB : (upd HA tb (.tup [.ref f_evened, .ref f_fall])) tb = some (.tup [.ref f_evened, .ref f_fall]) := upd_same
      generalize upd HA tb (.tup [.ref f_evened, .ref f_fall]) = HB at sB hTB
      refine ⟨tb, rfl, ⟨_, SqT.of hTB⟩, for_tup (K := K) (a := tb) (xs := [.ref f_evened, .ref f_fall])
        (fun _ σ H' => ∃ y4, σ = [some (.int (pl : Int)), some (.int z), some (.ref d), some (.ref b), y4, some (.ref v5), some (.ref L1), some x, none, none] ∧ LamX.ExtN HB H' ∧ LamX.Tabs T H')
        ⟨_, rfl, LamX.ExtN.refl _, tA.ext sB⟩ (fun i σ H' _ h => ?_) (fun i y σ HC hy h => ?_) (fun σ HC h => ?_)⟩
      · obtain ⟨_, _, e, _⟩ := h
        exact SqT.of (e _ _ hTB (fun _ z => nomatch z))
      · obtain ⟨y4, rfl, eC, tC⟩ := h
        refine ⟨tC, fun H2 e2 E2 Q2 hE2 => ?_, fun H5 e5 t5 => iteF ⟨_, rfl, eC.trans e5, t5⟩⟩
        have eX := ((eA.trans (.of sB)).trans eC).trans e2
        have b2 := ((bx.mono sB).ext eC).ext e2
        have hL2 : Lst H2 d R12 := eX _ _ hL7 (fun _ z => nomatch z)
        have hy' := List.mem_of_getElem? hy
        have bad : sp_bad2X K CB CE [.ref d, x] H2 Q2 E2 := ⟨_, _, rfl, .inr ⟨d, R12, rfl, hL2, r12_ok, b2, hE2⟩⟩
        simp only [List.mem_cons, List.not_mem_nil, or_false] at hy'
        rcases hy' with rfl | rfl
        · exact ⟨_, _, rfl, .inl ⟨rfl, rfl⟩, .ref d, rfl, x, rfl, .inr bad⟩
        · exact ⟨_, _, rfl, .inr ⟨rfl, rfl⟩, .ref d, rfl, x, rfl, .inr bad⟩
      · obtain ⟨y4, rfl, eC, tC⟩ := h
        exact ⟨_, _, rfl, (eA.trans (.of sB)).trans eC, tC⟩
    obtain ⟨y4, y7, rfl, eA, tA⟩ := h
    have hLA : Lst HA d R12 := eA _ _ hL7 (fun _ z => nomatch z)
    have eHA : LamX.ExtN H HA := eH7.trans eA
    clear eA t7 hL7 pb7 e7 eH7
    -- one odd
    have hpl : pl < R12.length := pl12
    refine ⟨.ref d, rfl, .int (pl : Int), rfl, d, _, _, _, rfl, rfl, hLA.sq, atI_nat (row_get hpl), _, _, rfl, rfl, .ref d, rfl, .int (pl : Int), rfl, d, _, _, pl, rfl, rfl, hLA, ixN_at (by rw [List.length_map]; exact hpl), ?_⟩
    have hLB : Lst (upd HA d (.lst ((R12.map V.int).set pl (.int (R12.getD pl 0 + 1))))) d (R12.set pl (R12.getD pl 0 + 1)) := by
      unfold Lst
      rw [upd_same, List.map_set]
    have eHB := extN_upd (o := .lst ((R12.map V.int).set pl (.int (R12.getD pl 0 + 1)))) eHA hd
    have tB := tabs_upd (o := .lst ((R12.map V.int).set pl (.int (R12.getD pl 0 + 1)))) tA hLA
    generalize upd HA d (.lst ((R12.map V.int).set pl (.int (R12.getD pl 0 + 1)))) = HB at hLB eHB tB
    clear hLA eHA tA
    have okM : ∀ p, p < 12 → RowOk (R12.set p (R12.getD p 0 + 1)) 12 1000000 := by unfold RowOk; decide
    -- with another
    have fin : ∀ u v : Int, ((pl = 0 ∧ u = 0 ∧ v = 11) ∨ (0 < pl ∧ u = 0 ∧ v = (pl : Int))) → ∀ H2 t, Same HB H2 → H2 t = some (.tup [.int u, .int v]) → ∀ H3, LamX.ExtN H2 H3 → PairBad K H3 (R12.set pl (R12.getD pl 0 + 1)) (.ref t) := by
      intro u v huv H2 t s2 ht H3 e3
      refine .inr ⟨t, _, rfl, e3 _ _ ht (fun _ z => nomatch z), .inr (.inr ⟨(u, v), rfl, fun zz => ?_⟩)⟩
      obtain ⟨i, j, e, hij, hj, hg⟩ := mem_evs.mp zz
      obtain ⟨_, h2⟩ := goodP_iff.mp hg
      have q1 : u = (i : Int) := (Prod.mk.inj e).1
      have q2 : v = (j : Int) := (Prod.mk.inj e).2
      rw [set_getD hpl, set_getD hpl] at h2
      have ev : ∀ k, k < 12 → R12.getD k 0 % 2 = 0 := by decide
      have hj12 : j < 12 := by rw [List.length_set] at hj; exact hj
      have v1 := ev i (by omega)
      have v2 := ev j hj12
      have v3 := ev pl pl12
      rcases huv with ⟨a1, a2, a3⟩ | ⟨a1, a2, a3⟩
      · rw [if_pos (by omega), if_neg (by omega)] at h2
        omega
      · rw [if_neg (by omega), if_pos (by omega)] at h2
        omega
    have last : ∀ (u v : Int), ((pl = 0 ∧ u = 0 ∧ v = 11) ∨ (0 < pl ∧ u = 0 ∧ v = (pl : Int))) → ∀ t (E2 : XK) (Q2 : VK), HB t = none → ∀ H3, LamX.ExtN (upd HB t (.tup [.int u, .int v])) H3 → (∀ H4, Same H3 H4 → E2 (.ref CE) none H4) → sp_evenedX K CB CE [.ref d, .ref t] H3 Q2 E2 := by
      intro u v huv t E2 Q2 ht H3 e3 hE2
      have st := same_new (o := .tup [.int u, .int v]) ht
      exact .inr ⟨_, _, rfl, .inr ⟨d, _, rfl, e3 _ _ (st _ _ hLB) (fun _ z => nomatch z), okM pl pl12, fin u v huv _ t st upd_same _ e3, hE2⟩⟩
    refine ⟨.int (pl : Int), rfl, _, _, rfl, rfl, _, rfl, ?_⟩
    by_cases c0 : 0 < pl
    · refine itP (decide_eq_true (by show (0 : Int) < (pl : Int); omega)) ?_
      refine ⟨.int (pl : Int), rfl, .int 0, rfl, _, _, rfl, .int (pl : Int), rfl, .int 0, rfl, _, _, rfl, (by show 2 ≤ sizeLine; decide), fun t ht => ?_⟩
      have ep : ([.int (if (0 : Int) < (pl : Int) then (0 : Int) else (pl : Int)), .int (if (0 : Int) > (pl : Int) then (0 : Int) else (pl : Int))] : List V) = [.int 0, .int (pl : Int)] := by
        rw [if_pos (by omega), if_neg (by omega)]
      rw [ep]
      refine ⟨tB.ext (same_new ht), fun H2 e2 E2 Q2 hE2 => ⟨.ref d, rfl, .ref t, rfl, last 0 (pl : Int) (.inr ⟨c0, rfl, rfl⟩) t E2 Q2 ht H2 e2 hE2⟩, fun H5 e5 t5 => q H5 ((eHB.trans (.of (same_new ht))).trans e5) t5⟩
    · refine itN (by rw [decide_eq_false (by show ¬ (0 : Int) < (pl : Int); omega)]; decide) ?_
      refine ⟨.int (pl : Int), rfl, .int 11, rfl, _, _, rfl, .int (pl : Int), rfl, .int 11, rfl, _, _, rfl, (by show 2 ≤ sizeLine; decide), fun t ht => ?_⟩
      have ep : ([.int (if (11 : Int) < (pl : Int) then (11 : Int) else (pl : Int)), .int (if (11 : Int) > (pl : Int) then (11 : Int) else (pl : Int))] : List V) = [.int 0, .int 11] := by
        rw [if_neg (by omega), if_pos (by omega), show (pl : Int) = 0 by omega]
      rw [ep]
      refine ⟨tB.ext (same_new ht), fun H2 e2 E2 Q2 hE2 => ⟨.ref d, rfl, .ref t, rfl, last 0 11 (.inl ⟨by omega, rfl, rfl⟩) t E2 Q2 ht H2 e2 hE2⟩, fun H5 e5 t5 => q H5 ((eHB.trans (.of (same_new ht))).trans e5) t5⟩
end
end EG

/-! _law_made_into: a list made into others; a call whose third argument is a lambda. -/
namespace EG
open PySem PySem.Spec PyProof.Rows L2
section
variable {X : Cx}
/-- the def that gets the lambda third; TT: what it makes of the lambda's reading -/
def Gives3 (X : Cx) (Ng : List Str) (x : Str) (sg : Scope) (g : Addr) (cd : Value) (bg : List Stmt) (a q : Str) (TT : (Hp → VK → Prop) → V → V → Hp → VK → Prop) : Prop :=
  ∀ (v1 v2 : V) (f c' : Addr) (s : Shared) (H : Hp) (Q : VK) (tl : Hp → VK → Prop),
    (∀ p1 p2 : Pos, PE (cxOf CX0 X.prog X.w X.K X.mg X.base Ng x sg g cd X.A X.stack s H E0).nox (.Call (.Name a p1) [] [] p2) (fun σ H1 Q1 => σ[2]? = some (some (.ref f)) ∧ H1 c' = some (LamX.CodeO c' q) ∧ tl H1 Q1)) →
    H c' = some (LamX.CodeO c' q) → TT tl v1 v2 H Q → ∃ t, PSs (cxOf CX0 X.prog X.w X.K X.mg X.base Ng x sg g cd X.A X.stack s H E0).nox bg t ∧ t { nx := fun _ H' => Q .non H', rt := Q } (L2.start Ng [v1, v2, .ref f]) H
def tLam3 (T : List (Addr × Str)) (TT : (Hp → VK → Prop) → V → V → Hp → VK → Prop) (t1 t2 t : TE) : TE := fun σ H Q => t1 σ H fun v1 H1 => t2 σ H1 fun v2 H2 => LamX.Tabs T H2 ∧ ∀ H3, LamX.ExtN H2 H3 → LamX.Tabs T H3 → TT (fun H' Q' => t σ H' Q') v1 v2 H3 Q
/-- x(e1, e2, lambda: body) -/
theorem pe_lam3 {T : List (Addr × Str)} {TT : (Hp → VK → Prop) → V → V → Hp → VK → Prop} {x a n1 n2 : Str} {g c P : Addr} {k : Nat} {st : Stmt} {fd : FuncData} {Ng : List Str} {e1 e2 body : Expr} {params : Arguments} {scope : Scope} {t1 t2 t : TE} {p lpos pos : Pos}
    (F : Fun X.K x x st g fd) (hg : Gl X x) (gk : X.mg x = some (.ref g)) (bk : Binds X.K fd [n1, n2, a] []) (Sg : FnScope Ng [n1, n2, a] (defScope st)) (hNg : Ng[2]? = some a) (hva : Vis (defScope st) a)
    (h1 : PE X e1 t1) (h2 : PE X e2 t2) (hG : ∀ cd, Gives3 X Ng x (defScope st) g cd (defBody st) a (X.env.qual ++ "<lambda>") TT) (TB : LamX.TabB X.base X.mg c P) (hcode : X.env.code = .ref c)
    (hmT : (P, X.env.qual ++ "<lambda>") ∈ T) (hu : ∀ p ∈ T, p.1 = P → p.2 = X.env.qual ++ "<lambda>") (hr : Room (k + 2) X.A) (L : LamX.LamS X.env.scope scope) (hdef : defaultsOf params X.env = ([], []))
    (hbind : ∀ (q : Str) (cl : List (Str × Addr)) (pm cv tv : Value), bindArgs (PySem.W.kla_fn "<lambda>" q params body scope cl pm cv tv) ⟨[], []⟩ = pure [])
    (hbody : ∀ (A : Around) (outer : List Env) (s : Shared) (H : Hp) (f c' : Addr), Room k (A.deeper (LamX.lamEnv X scope s.heap.objs.size f c')) → PE (LamX.lamCx X A outer s H (fun _ _ _ => False) scope f c') body t)
    (hs1 : starEach [e1, e2, .Lambda params body scope lpos] X.env = (false, eval e1 X.env) :: starEach [e2, .Lambda params body scope lpos] X.env := by rfl) (hs2 : starEach [e2, .Lambda params body scope lpos] X.env = (false, eval e2 X.env) :: starEach [.Lambda params body scope lpos] X.env := by rfl)
    (hdb : (x == ("__debug__" : Str)) = false := by decide) (hd : (a == ("__debug__" : Str)) = false := by decide) (hcd : (a == ("__classdict__" : Str)) = false := by decide) :
    PE X (.Call (.Name x p) [e1, e2, .Lambda params body scope lpos] [] pos) (tLam3 T TT t1 t2 t) := by
  have kk := F.kp
  obtain ⟨oc, od, kV, doc, pm, an, cd, ct, osl, ef, lk, hcg⟩ := F.ex
  subst ef
  refine ⟨fun pins s σ H Q I h => wpAny_Call_Name_kw (ld_glob I hg gk ?_ hdb)⟩
  refine PySem.W.callWith_K (h₀ := X.base) I.ok.mod.kin kk ?_ hs1 (by rw [hs2]; rfl)
  first | rw [hs1, hs2] | rw [hs2]
  show wpAny _ _ (spliced ((false, eval e1 X.env) :: (false, eval e2 X.env) :: (false, eval (.Lambda params body scope lpos) X.env) :: backTo pos (starEach [] X.env))) _ _ s
  refine Calls.spliced_cons (thn (h1.run pins s σ H _ I h) fun u1 s1 ⟨v1, Ha, Ia, r1, qa⟩ => ?_)
  refine Calls.spliced_cons (thn (h2.run pins s1 σ Ha _ Ia qa) fun u2 s2 ⟨v2, Hb, Ib, r2, hT, qb⟩ => ?_)
  refine Calls.spliced_cons (LamX.lam_make2 Ib TB hcode hmT hu hT hdef (L.has Ib.ok) fun f c' pm' tv H1 s' I1 eN T1 hf hfn hfr hco => ?_)
  refine Calls.spliced_nil ⟨I1.kIn, ?_⟩
  have rc : codeAny (model X.prog X.w) X.A (.call (.ref g) ⟨[u1, u2, .ref f], []⟩) (CR CX0 X.stack X.prog X.w H1 s' Q E0) s' := by
    refine LamX.run_ofS (N := Ng) (ps := [n1, n2, a]) (us := [u1, u2, .ref f]) (vs := [v1, v2, .ref f]) lk hcg Sg hr I1.env0 (bk s' [u1, u2, .ref f] I1.kIn rfl) (.cons r1 (.cons r2 (.cons rfl .nil))) rfl fun hr' => ?_
    obtain ⟨t', ht', hq'⟩ := hG cd v1 v2 f c' s' H1 Q (fun H' Q' => t σ H' Q') (fun p1 p2 => LamX.pe_act (i := 2) (W := fun _ _ _ _ => False) (E := fun _ _ _ => False) I1 L hf hfn hfr (hbind _ _ _ _ _) LamX.takes0 (fun _ _ _ _ z => z) hr' (fun A outer s H hr2 => hbody A outer s H f c' hr2) hNg hva hd hcd) hco (qb H1 eN T1)
    exact ⟨t', ht'.nox, hq'⟩
  refine wpAny_call (codeAny_mono rc fun r s3 hq => ?_)
  cases r with
  | error e => exact (show False from hq).elim
  | ok fl => cases fl <;> first | exact I1.after hq | exact False.elim hq
end
/-- the lambda's word where the list at g is ws and all else stands -/
def Tell (tl : Hp → VK → Prop) (H : Hp) (g : Addr) (ws : List V) (b : Bool) : Prop := ∀ H1, Sx g H H1 → H1 g = some (.lst ws) → ∀ Q, (∀ H2, Same H1 H2 → Q (.bl b) H2) → tl H1 Q
theorem Tell.sx {tl : Hp → VK → Prop} {H H' : Hp} {g : Addr} {ws : List V} {b : Bool} (h : Tell tl H g ws b) (s : Sx g H H') : Tell tl H' g ws b := fun H1 s1 e Q q => h H1 (s.trans s1) e Q q
def TMade (tl : Hp → VK → Prop) (v1 v2 : V) (H : Hp) (Q : VK) : Prop := ∃ (g dl : Addr) (w0 ds : List V), v1 = .ref g ∧ v2 = .ref dl ∧ dl ≠ g ∧ H g = some (.lst w0) ∧ w0.length ≤ 10000 ∧ H dl = some (.lst ds) ∧
  (∀ d ∈ ds, ∃ (t l : Addr) (ws : List V) (b : Bool), d = .ref t ∧ H t = some (.tup [.ref l, .bl b]) ∧ H l = some (.lst ws) ∧ l ≠ g ∧ ws.length ≤ 10000 ∧ Tell tl H g ws b) ∧ Tell tl H g w0 true ∧ ∀ H', Same H H' → Q (.bl true) H'
section
variable {X : Cx}
abbrev N_l_made_into : List Str := ["_law_fields", "_law_due", "_law_shows", "_law_kept", "_law_some", "_law_good", "_law_said"]
theorem made_gives {q : Str} {g : Addr} {cd : Value} (B : Blt X.mg) : Gives3 X ["_law_fields", "_law_due", "_law_shows", "_law_kept", "_law_some", "_law_good", "_law_said"] "_law_made_into" (defScope s_l_made_into) g cd (defBody s_l_made_into) "_law_shows" q TMade := by
  intro v1 v2 f c' s H Q tl act hc h
  obtain ⟨l, dl, w0, ds, rfl, rfl, ndl, hl, lw0, hdl, each, last, q⟩ := h
  let K := X.K
  refine ⟨_, (pss_cons (ps_set (i := 3) sc_l_made_into.nd rfl (.inl rfl) (pe_callTy (r := rListOf K) call_list_of (by rfl) B.list PyProof.Rows.boot_list (pa_cons (pv 0) pa_nil)))
    (pss_cons (ps_for PassesOwn.never rfl (pi_list (pv 1)) (pg_tup rfl (pgs_cons (pg_name (i := 4) sc_l_made_into.nd rfl (.inl rfl)) (pgs_cons (pg_name (i := 5) sc_l_made_into.nd rfl (.inl rfl)) pgs_nil)))
    (pss_cons (ps_expr (pe_bm0 PySem.F.plainAttrs_list PySem.F.slot_list_clear PySem.F.type_list_clear mt_clear (pv 0)))
      (pss_cons (ps_expr (pe_bm PySem.F.plainAttrs_list PySem.F.slot_list_extend PySem.F.type_list_extend mt_extend (pv 0) (pa_cons (pv 4) pa_nil)))
      (pss_cons (ps_set (i := 6) sc_l_made_into.nd rfl (.inl rfl) (act _ _))
      (pss_one (ps_if (PW.pt (pw_or (pt_not (pt_val (pe_callB (r := rIsi K) call_isi (by rfl) B.isi PyProof.Rows.boot_isinstance (pa_cons (pv 6) (pa_cons (pe_bltn (v := .ty "bool") (by rfl) B.bool PyProof.Rows.boot_bool rfl) pa_nil))))) (pw_or1 (pt_cmpR op_ne (pv 6) (pv 5) (nomark _)))))
      (pss_one (ps_ret pe_bl))
      pss_nil))))))
    (pss_cons (ps_expr (pe_bm0 PySem.F.plainAttrs_list PySem.F.slot_list_clear PySem.F.type_list_clear mt_clear (pv 0)))
    (pss_cons (ps_expr (pe_bm PySem.F.plainAttrs_list PySem.F.slot_list_extend PySem.F.type_list_extend mt_extend (pv 0) (pa_cons (pv 3) pa_nil)))
    (pss_one (ps_ret (pe_cmpR op_isBl (act _ _) pe_bl (nomark _)))))))), ?_⟩
  -- kept
  refine ⟨.ref l, rfl, l, _, rfl, .inl (SqL.of hl), fun kp hkp => ?_⟩
  have s0 := same_new (o := .lst w0) hkp
  have hk : (upd H kp (.lst w0)) kp = some (.lst w0) := upd_same
  have nkl : kp ≠ l := (ne_of_none hl hkp).symm
  have hl0 := s0 _ _ hl
  have hdl0 := s0 _ _ hdl
  have hc0 := s0 _ _ hc
  have sH : Sx l H (upd H kp (.lst w0)) := Same.sx s0
  generalize hH0 : upd H kp (.lst w0) = H0 at s0 hk hl0 hdl0 hc0 sH
  have ncl : c' ≠ l := ne_of hc hl (by intro z; unfold LamX.CodeO at z; cases z)
  -- the others
  refine ⟨.ref dl, rfl, dl, rfl, ⟨_, SqL.of hdl0⟩, for_list (K := X.K) (a := dl) (xs := ds)
    (fun _ σ H' => ∃ (y4 y5 y6 : Option V) (ws : List V), σ = [some (.ref l), some (.ref dl), some (.ref f), some (.ref kp), y4, y5, y6] ∧ Sx l H0 H' ∧ H' l = some (.lst ws))
    ⟨_, _, _, w0, rfl, Same.sx (Same.refl _), hl0⟩ (fun i σ H' _ h => ?_) (fun i x σ H1 hx h => ?_) (fun σ H1 h => ?_)⟩
  · obtain ⟨_, _, _, _, _, s1, _⟩ := h
    exact SqL.of (s1 _ _ ndl hdl0)
  · obtain ⟨y4, y5, y6, ws0, rfl, s1, h1⟩ := h
    obtain ⟨t, m, ws, b, rfl, ht, hm, nml, lws, tell⟩ := each x (List.mem_of_getElem? hx)
    have ntl : t ≠ l := ne_of ht hl (by intro z; cases z)
    have ht1 := s1 _ _ ntl (s0 _ _ ht)
    have hm1 := s1 _ _ nml (s0 _ _ hm)
    refine ⟨t, _, rfl, SqT.of ht1, rfl, _, _, rfl, _, _, rfl, rfl, ?_⟩
    refine ⟨.ref l, rfl, .inl ⟨rfl, _, SqL.of h1⟩, l, ws0, rfl, rfl, h1, ?_⟩
    have s2 : Sx l H0 (upd H1 l (.lst [])) := s1.trans sx_upd
    have h2 : (upd H1 l (.lst [])) l = some (.lst []) := upd_same
    have hm2 : (upd H1 l (.lst [])) m = some (.lst ws) := by rw [upd_ne nml]; exact hm1
    generalize upd H1 l (.lst []) = H2 at s2 h2 hm2
    refine ⟨.ref l, rfl, .inl ⟨rfl, _, SqL.of h2⟩, .ref m, rfl, l, m, [], ws, rfl, rfl, h2, hm2, (by have : ws.length < sizeLine := lt_line (by omega); show 0 + ws.length ≤ sizeLine; omega), ?_⟩
    have s3 : Sx l H0 (upd H2 l (.lst ([] ++ ws))) := s2.trans sx_upd
    have h3 : (upd H2 l (.lst ([] ++ ws))) l = some (.lst ws) := upd_same
    generalize upd H2 l (.lst ([] ++ ws)) = H3 at s3 h3
    refine ⟨rfl, s3 _ _ ncl hc0, tell H3 (sH.trans s3) h3 _ fun H4 s4 => ?_⟩
    refine ⟨.bl b, rfl, _, _, _, _, true, rfl, .ty _, .base (.bl b), kit_ty (by decide +kernel), true, rfl, iteF ?_⟩
    refine ⟨.bl b, rfl, .bl b, rfl, rfl, _, rfl, itN (by simp) ?_⟩
    exact ⟨_, _, _, ws, rfl, s3.trans (Same.sx s4), s4 _ _ h3⟩
  · obtain ⟨y4, y5, y6, ws0, rfl, s1, h1⟩ := h
    have hk1 := s1 _ _ nkl hk
    refine ⟨.ref l, rfl, .inl ⟨rfl, _, SqL.of h1⟩, l, ws0, rfl, rfl, h1, ?_⟩
    have s2 : Sx l H0 (upd H1 l (.lst [])) := s1.trans sx_upd
    have h2 : (upd H1 l (.lst [])) l = some (.lst []) := upd_same
    have hk2 : (upd H1 l (.lst [])) kp = some (.lst w0) := by rw [upd_ne nkl]; exact hk1
    generalize upd H1 l (.lst []) = H2 at s2 h2 hk2
    refine ⟨.ref l, rfl, .inl ⟨rfl, _, SqL.of h2⟩, .ref kp, rfl, l, kp, [], w0, rfl, rfl, h2, hk2, (by have : w0.length < sizeLine := lt_line (by omega); show 0 + w0.length ≤ sizeLine; omega), ?_⟩
    have s3 : Sx l H0 (upd H2 l (.lst ([] ++ w0))) := s2.trans sx_upd
    have h3 : (upd H2 l (.lst ([] ++ w0))) l = some (.lst w0) := upd_same
    generalize upd H2 l (.lst ([] ++ w0)) = H3 at s3 h3
    have sm : Same H H3 := fun b o e => by
      by_cases c : b = l
      · rw [c, hl] at e
        rw [c, h3]
        exact e
      · exact (sH.trans s3) b o c e
    exact ⟨rfl, s3 _ _ ncl hc0, last H3 (sH.trans s3) h3 _ fun H4 s4 => ⟨true, true, rfl, rfl, q H4 (sm.trans s4)⟩⟩
end
end EG

/-! Answers made. -/
namespace EG
open PySem L2
theorem make_al {C g : Addr} {H : Hp} {ws : List V} {Q : VK} (hg : H g = some (.lst ws)) (q : ∀ H' x o, Same H H' → H x = none → H o = none → IsAl C H' x o → H' o = some (.lst ws) → Q (.ref x) H') :
    ∀ x dx, H x = none → H dx = none → dx ≠ x → sp_al_init C [.ref x, .ref g] (upd (upd H dx (.own x)) x (.ins C dx [])) (fun v H2 => v = .non ∧ Q (.ref x) H2) E0 := fun x dx nx nd _ =>
  ⟨x, dx, g, ws, rfl, upd_same, made_at hg nx nd, fun H' o ho h1 h2 hk => ⟨rfl, q H' x o (Same.made nx nd hk) nx (by
    have e : Same H (upd (upd H dx (.own x)) x (.ins C dx [])) := fun b u z => made_at z nx nd
    exact e.free ho) ⟨dx, h2⟩ h1⟩⟩
theorem make_nv {C : Addr} {H : Hp} {Q : VK} (q : ∀ H' x, Same H H' → H x = none → IsNv C H' x → Q (.ref x) H') : ∀ x dx, H x = none → H dx = none → dx ≠ x → Q (.ref x) (upd (upd H dx (.own x)) x (.ins C dx [])) := fun x dx nx nd _ =>
  q _ x (fun b u z => made_at z nx nd) nx ⟨dx, upd_same⟩
end EG

/-! _law_fields_right. -/
namespace EG
open PySem PySem.Spec PyProof.Rows L2
theorem flat_rep (n : Nat) (x : V) : (List.replicate n [x]).flatten = List.replicate n x := by
  induction n with
  | zero => rfl
  | succ n ih => rw [List.replicate_succ, List.flatten_cons, ih, List.replicate_succ]; rfl
theorem prs_rep {H : Hp} {v : V} {p : Pr} (h : IsP H v p) : ∀ n, Prs H (List.replicate n v) (List.replicate n p)
  | 0 => .nil
  | n + 1 => .cons h (prs_rep h n)
theorem rep_no : alikeB ((rbeh [0, 2, 4, 2] (List.replicate 3000 ((0 : Int), (1 : Int)))).getD []) = false := by
  have e : List.replicate 3000 ((0 : Int), (1 : Int)) = [(0, 1), (0, 1)] ++ List.replicate 2998 ((0 : Int), (1 : Int)) := by
    rw [show (3000 : Nat) = 2998 + 1 + 1 from rfl, List.replicate_succ, List.replicate_succ]
    rfl
  rw [e, rbeh_app_none _ (by decide)]
  decide
theorem ans_0242 {A : Option (List Pr)} (h : AnsFor [0, 2, 4, 2] A) : A = some [(0, 2)] := by
  have one : Rch [0, 2, 4, 2] 1 (behP [0, 2, 4, 2] (0, 2)) := .step (.zero _) (by decide)
  have e2 : alikeB (behP [0, 2, 4, 2] (0, 2)) = true := by decide
  cases A with
  | none =>
    have := h _ _ one
    rw [e2] at this
    cases this
  | some ps =>
    obtain ⟨r, h1, h2, h3⟩ := h
    match ps, h1, h3 with
    | [], h1, _ =>
      cases h1
      exact absurd h2 (by decide)
    | [p], h1, _ =>
      have h1 : stepE [0, 2, 4, 2] p = some r := h1
      unfold stepE at h1
      split at h1
      · rename_i c
        cases h1
        have key : ∀ p ∈ evs [0, 2, 4, 2], alikeB (behP [0, 2, 4, 2] p) = true → p = (0, 2) := by decide
        rw [key p c h2]
      · cases h1
    | p :: q :: qs, _, h3 =>
      have := h3 1 _ (by show 1 < qs.length + 1 + 1; omega) one
      rw [e2] at this
      cases this
theorem still {ns : Rw} (e : evs ns = []) : ∀ {k : Nat} {r : Rw}, Rch ns k r → r = ns := by
  intro k r hk
  induction hk with
  | zero => rfl
  | step h hp ih => rw [ih, e] at hp; cases hp
theorem never_01 : neverB [0, 1] = true := neverB_true fun n r h => by rw [still (by decide) h]; decide
theorem never_02 : neverB [0, 2] = false := neverB_false fun h => by
  have := h 1 _ (.step (.zero _) (show ((0 : Int), (1 : Int)) ∈ evs [0, 2] by decide))
  revert this
  decide
theorem never_00 : neverB [0, 0] = false := neverB_false fun h => by
  have := h 0 _ (.zero _)
  revert this
  decide
theorem ans_01 {A : Option (List Pr)} (h : AnsFor [0, 1] A) : A = none := by
  cases A with
  | none => rfl
  | some ps =>
    obtain ⟨r, h1, h2, _⟩ := h
    rw [still (by decide) (rbeh_rch _ rfl h1)] at h2
    exact absurd h2 (by decide)
theorem ans_00 {A : Option (List Pr)} (h : AnsFor [0, 0] A) : A = some [] := by
  cases A with
  | none =>
    have := h 0 _ (.zero _)
    exact absurd this (by decide)
  | some ps =>
    obtain ⟨r, h1, h2, h3⟩ := h
    match ps, h3 with
    | [], _ => rfl
    | p :: qs, h3 =>
      have := h3 0 _ (by show 0 < qs.length + 1; omega) (.zero _)
      exact absurd this (by decide)
/-- one entry of what is due -/
def DueOk (g : Addr) (H : Hp) (d : V) (ps : List Pr) (b : Bool) : Prop := ∃ (t l : Addr) (ws : List V), d = .ref t ∧ H t = some (.tup [.ref l, .bl b]) ∧ H l = some (.lst ws) ∧ l ≠ g ∧ Prs H ws ps
theorem DueOk.mono {g : Addr} {H H' : Hp} {d : V} {ps : List Pr} {b : Bool} (h : DueOk g H d ps b) (s : Same H H') : DueOk g H' d ps b := by
  obtain ⟨t, l, ws, e, h1, h2, h3, h4⟩ := h
  exact ⟨t, l, ws, e, s _ _ h1, s _ _ h2, h3, h4.mono (Same.tups s)⟩
structure Kp (H : Hp) (a : Addr) (o : HO) : Prop where
  h : H a = some o
theorem Kp.mono {H H' : Hp} {a : Addr} {o : HO} (k : Kp H a o) (s : Same H H') : Kp H' a o := ⟨s _ _ k.h⟩
/-- what was found for the row that stands at r -/
structure Fo (CA : Addr) (H : Hp) (r x g : Addr) (row : Rw) : Prop where
  hr : Lst H r row
  hx : IsAl CA H x g
  hg : ∃ ws, H g = some (.lst ws) ∧ Prs H ws [(0, 2)]
  rg : r ≠ g
theorem Fo.hgl {CA : Addr} {H : Hp} {r x g : Addr} {row : Rw} (f : Fo CA H r x g row) : H g = some (.lst f.hg.choose) := f.hg.choose_spec.1
theorem Fo.mono {CA : Addr} {H H' : Hp} {r x g : Addr} {row : Rw} (f : Fo CA H r x g row) (s : Same H H') : Fo CA H' r x g row := by
  obtain ⟨h1, ⟨dx, h2⟩, ⟨ws, h3, h4⟩, h5⟩ := f
  exact ⟨h1.mono s, ⟨dx, s _ _ h2⟩, ⟨ws, s _ _ h3, h4.mono (Same.tups s)⟩, h5⟩
theorem Fo.ext {CA : Addr} {H H' : Hp} {r x g : Addr} {row : Rw} (f : Fo CA H r x g row) (s : LamX.ExtN H H') : Fo CA H' r x g row := by
  obtain ⟨h1, ⟨dx, h2⟩, ⟨ws, h3, h4⟩, h5⟩ := f
  exact ⟨s _ _ h1 (fun _ z => nomatch z), ⟨dx, s _ _ h2 (fun _ z => nomatch z)⟩, ⟨ws, s _ _ h3 (fun _ z => nomatch z), h4.mono fun b xs e => s _ _ e (fun _ z => nomatch z)⟩, h5⟩
/-- another list changes -/
theorem Fo.oth {CA : Addr} {H : Hp} {r x g a : Addr} {row : Rw} {xs : List V} {o : HO} (f : Fo CA H r x g row) (h : H a = some (.lst xs)) (n1 : a ≠ r) (n2 : a ≠ g) : Fo CA (upd H a o) r x g row := by
  obtain ⟨h1, ⟨dx, h2⟩, ⟨ws, h3, h4⟩, h5⟩ := f
  exact ⟨by unfold Lst; rw [upd_ne n1.symm]; exact h1, ⟨dx, by rw [upd_ne (ne_of h2 h (by intro z; cases z))]; exact h2⟩, ⟨ws, by rw [upd_ne n2.symm]; exact h3, h4.mono (tups_lst h)⟩, h5⟩
/-- the row itself changes -/
theorem Fo.set {CA : Addr} {H : Hp} {r x g : Addr} {row row' : Rw} (f : Fo CA H r x g row) : Fo CA (upd H r (.lst (row'.map V.int))) r x g row' := by
  obtain ⟨h1, ⟨dx, h2⟩, ⟨ws, h3, h4⟩, h5⟩ := f
  exact ⟨upd_same, ⟨dx, by rw [upd_ne (ne_of h2 h1 (by intro z; cases z))]; exact h2⟩, ⟨ws, by rw [upd_ne h5.symm]; exact h3, h4.mono (tups_lst h1)⟩, h5⟩
theorem nv_oth {CN : Addr} {H : Hp} {x a : Addr} {xs : List V} {o : HO} (n : IsNv CN H x) (h : H a = some (.lst xs)) : IsNv CN (upd H a o) x := by
  obtain ⟨dx, h1⟩ := n
  exact ⟨dx, by rw [upd_ne (ne_of h1 h (by intro z; cases z))]; exact h1⟩
theorem nv_mono {CN : Addr} {H H' : Hp} {x : Addr} (n : IsNv CN H x) (s : Same H H') : IsNv CN H' x := by
  obtain ⟨dx, h1⟩ := n
  exact ⟨dx, s _ _ h1⟩
theorem sx_none {kd a : Addr} {H H' : Hp} (s : Sx kd H H') (n : a ≠ kd) (h : H' a = none) : H a = none := by
  cases e : H a with
  | none => rfl
  | some o =>
    rw [s a o n e] at h
    cases h
section
variable {P : Program} {w : World} {K : PySem.W.Frag} {mg : Str → Option Value} {base : Heap}
def sp_fields (T : List (Addr × Str)) : Sp := fun vs H Q _ => vs = [] ∧ LamX.Tabs T H ∧ ∀ H', LamX.ExtN H H' → LamX.Tabs T H' → Q (.bl true) H'
abbrev N_l_fields_right : List Str := ["_law_row", "_law_found", "_law_due", "_law_never", "_law_two", "_law_told", "_law_some"]
theorem ok_fields {f g0 c Pt CB CE C_Alike C_Never C_Answer : Addr} {fd fm : FuncData} {T : List (Addr × Str)} (F : Fun K "_law_fields_right" "_law_fields_right" s_l_fields_right f fd) (hc : fd.code = .ref c) (B : Blt mg) (TB : LamX.TabB base mg c Pt)
    (hm : (Pt, lamQ "_law_fields_right") ∈ T) (hu : ∀ p ∈ T, p.1 = Pt → p.2 = lamQ "_law_fields_right") (g_Alike : mg "Alike" = some (.ref C_Alike)) (g_Never : mg "Never" = some (.ref C_Never))
    (cl_Alike : ClF K C_Alike) (cl_Never : ClF K C_Never) (I : IsiF K C_Alike C_Never C_Answer) (nE : NoAttr K C_Alike "evenings") (i_Never : PySem.W.findIn K (.ref C_Never) "__init__" = some (some (.builtin "object.__init__")))
    (Fm : Fun K "_law_made_into" "_law_made_into" s_l_made_into g0 fm) (gm : mg "_law_made_into" = some (.ref g0)) (bm : Binds K fm ["_law_fields", "_law_due", "_law_shows"] [])
    (c_Alike_init : CalI CX0 P w K mg base C_Alike ["self", "evenings"] 1 (sp_al_init C_Alike)) (c_Alike_shows : CalM CX0 P w K mg base C_Alike "shows" ["self", "row"] 3 (sp_al_shows K C_Alike)) (c_Never_shows : CalM CX0 P w K mg base C_Never "shows" ["self", "row"] 3 (sp_nv_shows C_Never))
    (c_alike : Cal (L2.CX P w) P w K mg base "alike" ["row"] 3 (sp_alike6 K CB C_Alike C_Never)) (c_evenings : Cal (L2.CX P w) P w K mg base "evenings" ["row"] 3 (sp_evenings6 K CB))
    (c_evened : Cal (L2.CX P w) P w K mg base "evened" ["row", "evening"] 4 (sp_evenedX K CB CE)) (c_fall : Cal (L2.CX P w) P w K mg base "fall" ["row", "evening"] 4 (sp_fallX K CB CE)) :
    FnOk P w K mg base CX0 6 f fd [] (sp_fields T) := by
  refine ok_code F hc sc_l_fields_right (fun vs H Q E h => ?_) (fun A outer s H vs Q E hr h => ?_)
  · rw [h.1]
    rfl
  · obtain ⟨rfl, tabs, q⟩ := h
    refine ⟨_, (pss_cons (ps_set (i := 0) sc_l_fields_right.nd rfl (.inr rfl) (pe_lst (pa_cons pe_int (pa_cons pe_int (pa_cons pe_int (pa_cons pe_int pa_nil))))))
    (pss_cons (ps_set (i := 1) sc_l_fields_right.nd rfl (.inr rfl) (pe_calX (E := fun _ _ _ => False) c_alike hr passF (by rfl) (pa_cons (pv 0) pa_nil)))
    (pss_cons (ps_set (i := 2) sc_l_fields_right.nd rfl (.inl rfl) (pe_lst (pa_cons (pe_tup (pa_cons (pe_lst (pa_cons (pe_tup (pa_cons pe_int (pa_cons pe_int pa_nil))) pa_nil)) (pa_cons pe_bl pa_nil))) (pa_cons (pe_tup (pa_cons (pe_lst (pa_cons (pe_tup (pa_cons pe_int (pa_cons pe_int pa_nil))) (pa_cons (pe_tup (pa_cons pe_int (pa_cons pe_int pa_nil))) pa_nil))) (pa_cons pe_bl pa_nil))) (pa_cons (pe_tup (pa_cons (pe_lst (pa_cons (pe_tup (pa_cons pe_int (pa_cons pe_int pa_nil))) pa_nil)) (pa_cons pe_bl pa_nil))) (pa_cons (pe_tup (pa_cons (pe_lst (pa_cons (pe_tup (pa_cons pe_int (pa_cons pe_int pa_nil))) pa_nil)) (pa_cons pe_bl pa_nil))) (pa_cons (pe_tup (pa_cons (pe_lst pa_nil) (pa_cons pe_bl pa_nil))) pa_nil)))))))
    (pss_cons (ps_set (i := 2) sc_l_fields_right.nd rfl (.inl rfl) (pe_op op_cat (pv 2) (pe_lst (pa_cons (pe_tup (pa_cons (pe_lst (pa_cons (pe_tup (pa_cons pe_int (pa_cons pe_int pa_nil))) pa_nil)) (pa_cons pe_bl pa_nil))) (pa_cons (pe_tup (pa_cons (pe_lst (pa_cons (pe_tup (pa_cons pe_int (pa_cons pe_int pa_nil))) (pa_cons (pe_tup (pa_cons pe_int (pa_cons pe_int pa_nil))) pa_nil))) (pa_cons pe_bl pa_nil))) (pa_cons (pe_tup (pa_cons (pe_op op_rep (pe_lst (pa_cons (pe_tup (pa_cons pe_int (pa_cons pe_int pa_nil))) pa_nil)) pe_int) (pa_cons pe_bl pa_nil))) (pa_cons (pe_tup (pa_cons (pe_lst (pa_cons (pe_tup (pa_cons pe_int (pa_cons (pe_un un_neg pe_int) pa_nil))) pa_nil)) (pa_cons pe_bl pa_nil))) pa_nil)))))))
    (pss_cons (ps_if (pt_not (pt_val (pe_callB (r := rIsi K) call_isi (by rfl) B.isi PyProof.Rows.boot_isinstance (pa_cons (pv 1) (pa_cons (pe_glob (v := .ref C_Alike) (by rfl) g_Alike rfl) pa_nil)))))
    (pss_one (ps_ret pe_bl))
    pss_nil)
    (pss_cons (ps_if (pt_not (pt_val (pe_lam3 (T := T) (TT := TMade) (k := 3) (t := tMeth C_Alike "shows" (sp_al_shows K C_Alike) [] E0 (tVar 1) (tCons (tVar 0) tNil)) Fm (by rfl) gm bm sc_l_made_into rfl (.inl rfl) (pe_fld (pv 1) rfl) (pv 2) (fun _ => made_gives B) TB rfl hm hu hr (LamX.lamS_by (by show LamX.lamSB (defScope s_l_fields_right) _ = true; decide +kernel)) rfl (fun _ _ _ _ _ => rfl) (fun A outer s H f c2 hr2 => pe_methC c_Alike_shows cl_Alike.cl hr2 (pv 1) (pa_cons (pv 0) pa_nil)))))
    (pss_one (ps_ret pe_bl))
    pss_nil)
    (pss_cons (ps_asg pe_int (pg_sub (pv 0) pe_int set_list))
    (pss_cons (ps_if (PW.pt (pw_or (pt_cmpR op_notBl (pe_methC c_Alike_shows cl_Alike.cl hr (pv 1) (pa_cons (pv 0) pa_nil)) pe_bl (nomark _)) (pw_or1 (pt_cmpR op_notBl (pe_shows (K := K) rfl c_Alike_shows c_Never_shows cl_Alike.cl cl_Never.cl hr (pe_calX (E := fun _ _ _ => False) c_alike hr passF (by rfl) (pa_cons (pv 0) pa_nil)) (pa_cons (pv 0) pa_nil)) pe_bl (nomark _)))))
    (pss_one (ps_ret pe_bl))
    pss_nil)
    (pss_cons (ps_asg pe_int (pg_sub (pv 0) pe_int set_list))
    (pss_cons (ps_par (i := 3) (j := 4) rfl sc_l_fields_right.nd rfl rfl (by decide) rfl rfl (pa_cons (pe_makeN cl_Never.mks i_Never cl_Never.kp (by rfl) g_Never) (pa_cons (pe_lst (pa_cons pe_int (pa_cons pe_int pa_nil))) pa_nil)) (by rfl))
    (pss_cons (ps_set (i := 5) sc_l_fields_right.nd rfl (.inl rfl) (pe_lst (pa_cons (pe_methC c_Never_shows cl_Never.cl hr (pv 3) (pa_cons (pv 4) pa_nil)) (pa_cons (pe_methC c_Alike_shows cl_Alike.cl hr (pe_makeC c_Alike_init hr (by rfl) g_Alike (pa_cons (pe_lst pa_nil) pa_nil)) (pa_cons (pv 4) pa_nil)) (pa_cons (pe_methC c_Alike_shows cl_Alike.cl hr (pe_makeC c_Alike_init hr (by rfl) g_Alike (pa_cons (pe_lst (pa_cons (pe_tup (pa_cons pe_int (pa_cons pe_int pa_nil))) pa_nil)) pa_nil)) (pa_cons (pv 4) pa_nil)) pa_nil)))))
    (pss_cons (ps_asg pe_int (pg_sub (pv 4) pe_int set_list))
    (pss_cons (ps_set (i := 5) sc_l_fields_right.nd rfl (.inl rfl) (pe_op op_cat (pv 5) (pe_lst (pa_cons (pe_methC c_Never_shows cl_Never.cl hr (pv 3) (pa_cons (pv 4) pa_nil)) (pa_cons (pe_methC c_Alike_shows cl_Alike.cl hr (pe_makeC c_Alike_init hr (by rfl) g_Alike (pa_cons (pe_lst (pa_cons (pe_tup (pa_cons pe_int (pa_cons pe_int pa_nil))) pa_nil)) pa_nil)) (pa_cons (pv 4) pa_nil)) pa_nil)))))
    (pss_cons (ps_expr (pe_bm PySem.F.plainAttrs_list PySem.F.slot_list_append PySem.F.type_list_append mt_append (pv 5) (pa_cons (pe_callB (r := rIsi K) call_isi (by rfl) B.isi PyProof.Rows.boot_isinstance (pa_cons (pe_calX (E := fun _ _ _ => False) c_alike hr passF (by rfl) (pa_cons (pv 4) pa_nil)) (pa_cons (pe_glob (v := .ref C_Never) (by rfl) g_Never rfl) pa_nil))) pa_nil)))
    (pss_cons (ps_asg pe_int (pg_sub (pv 4) pe_int set_list))
    (pss_cons (ps_set (i := 5) sc_l_fields_right.nd rfl (.inl rfl) (pe_op op_cat (pv 5) (pe_lst (pa_cons (pe_methC c_Never_shows cl_Never.cl hr (pv 3) (pa_cons (pv 4) pa_nil)) (pa_cons (pe_methC c_Alike_shows cl_Alike.cl hr (pe_makeC c_Alike_init hr (by rfl) g_Alike (pa_cons (pe_lst pa_nil) pa_nil)) (pa_cons (pv 4) pa_nil)) (pa_cons (pe_cmpR (r := rEqD K) (op_eqD hr.units) (pe_fld (pe_calX (E := fun _ _ _ => False) c_alike hr passF (by rfl) (pa_cons (pv 4) pa_nil)) rfl) (pe_lst pa_nil) (nomark _)) pa_nil))))))
    (pss_cons (ps_if (PW.pt (pw_or (pt_cmpR (r := rNeD K) (op_neD hr.units) (pv 5) (pe_lst (pa_cons pe_bl (pa_cons pe_bl (pa_cons pe_bl (pa_cons pe_bl (pa_cons pe_bl (pa_cons pe_bl (pa_cons pe_bl (pa_cons pe_bl (pa_cons pe_bl pa_nil)))))))))) (nomark _)) (pw_or1 (pt_cmpR op_notBl (pe_methC c_Alike_shows cl_Alike.cl hr (pv 1) (pa_cons (pv 0) pa_nil)) pe_bl (nomark _)))))
    (pss_one (ps_ret pe_bl))
    pss_nil)
    (pss_cons (ps_set (i := 6) sc_l_fields_right.nd rfl (.inl rfl) (pe_lst (pa_cons pe_int (pa_cons pe_int (pa_cons pe_int pa_nil)))))
    (pss_cons (ps_if (PW.pt (pw_or (pt_cmpR (r := rNeD K) (op_neD hr.units) (pe_calX (E := fun _ _ _ => False) c_evened hr passF (by rfl) (pa_cons (pv 6) (pa_cons (pe_tup (pa_cons pe_int (pa_cons pe_int pa_nil))) pa_nil))) (pe_lst (pa_cons pe_int (pa_cons pe_int (pa_cons pe_int pa_nil)))) (nomark _)) (pw_or1 (pt_cmpR op_ne (pe_calX (E := fun _ _ _ => False) c_fall hr passF (by rfl) (pa_cons (pv 6) (pa_cons (pe_tup (pa_cons pe_int (pa_cons pe_int pa_nil))) pa_nil))) pe_int (nomark _)))))
    (pss_one (ps_ret pe_bl))
    pss_nil)
    (pss_cons (ps_asg pe_int (pg_sub (pv 6) pe_int set_list))
    (pss_cons (ps_if (PW.pt (pw_or (pt_cmpR (r := rNeD K) (op_neD hr.units) (pe_calX (E := fun _ _ _ => False) c_evened hr passF (by rfl) (pa_cons (pv 6) (pa_cons (pe_tup (pa_cons pe_int (pa_cons pe_int pa_nil))) pa_nil))) (pe_lst (pa_cons pe_int (pa_cons pe_int (pa_cons pe_int pa_nil)))) (nomark _)) (pw_or1 (pt_cmpR op_ne (pe_calX (E := fun _ _ _ => False) c_fall hr passF (by rfl) (pa_cons (pv 6) (pa_cons (pe_tup (pa_cons pe_int (pa_cons pe_int pa_nil))) pa_nil))) pe_int (nomark _)))))
    (pss_one (ps_ret pe_bl))
    pss_nil)
    (pss_one (ps_ret (pe_cmpR (r := rEqD K) (op_eqD hr.units) (pe_calX (E := fun _ _ _ => False) c_evenings hr passF (by rfl) (pa_cons (pv 6) pa_nil)) (pe_lst (pa_cons (pe_tup (pa_cons pe_int (pa_cons pe_int pa_nil))) (pa_cons (pe_tup (pa_cons pe_int (pa_cons pe_int pa_nil))) (pa_cons (pe_tup (pa_cons pe_int (pa_cons pe_int pa_nil))) pa_nil)))) (nomark _))))))))))))))))))))))))), ?_⟩
    have okA : Small [0, 2, 4, 2] := by unfold Small RowOk; decide
    refine ⟨(by show 4 ≤ sizeLine; decide), fun r hr0 => ?_⟩
    have s1 : Same H (upd H r (.lst [.int 0, .int 2, .int 4, .int 2])) := same_new hr0
    have hr1 : Lst (upd H r (.lst [.int 0, .int 2, .int 4, .int 2])) r [0, 2, 4, 2] := upd_same
    generalize upd H r (.lst [.int 0, .int 2, .int 4, .int 2]) = H1 at s1 hr1 ⊢
    refine ⟨.ref r, rfl, .inl ⟨r, _, rfl, hr1, okA, fun H2 x A s2 nx an ng af => ?_⟩⟩
    obtain rfl := ans_0242 af
    obtain ⟨g, wg, hx, hg, pg⟩ := an
    have foH2 : Fo C_Alike H2 r x g [0, 2, 4, 2] := ⟨hr1.mono s2, hx, ⟨wg, hg, pg⟩, ne_of_none (show H1 r = _ from hr1) (ng g hx)⟩
    have sH2 := s1.trans s2
    clear s1 s2 hr1 nx ng af hx hg pg
    -- what is due
    refine ⟨(by show 2 ≤ sizeLine; decide), fun p1_0 hp1_0 => ?_⟩
    have cp1_0 := same_new (o := .tup [.int 0, .int 2]) hp1_0
    have ep1_0 : (upd H2 p1_0 (.tup [.int 0, .int 2])) p1_0 = some (.tup [.int 0, .int 2]) := upd_same
    have foHp1_0 := foH2.mono cp1_0
    have sHp1_0 := sH2.trans cp1_0
    generalize upd H2 p1_0 (.tup [.int 0, .int 2]) = Hp1_0 at cp1_0 ep1_0 foHp1_0 sHp1_0 ⊢
    clear cp1_0 hp1_0 foH2 sH2
    refine ⟨(by show 1 ≤ sizeLine; decide), fun l1 hl1 => ?_⟩
    have cl1 := same_new (o := .lst [.ref p1_0]) hl1
    have el1 : (upd Hp1_0 l1 (.lst [.ref p1_0])) l1 = some (.lst [.ref p1_0]) := upd_same
    have gl1 : l1 ≠ g := (ne_of_none foHp1_0.hgl hl1).symm
    have foHl1 := foHp1_0.mono cl1
    have sHl1 := sHp1_0.trans cl1
    generalize upd Hp1_0 l1 (.lst [.ref p1_0]) = Hl1 at cl1 el1 foHl1 sHl1 ⊢
    have ep1_0 := cl1 _ _ ep1_0
    clear cl1 hl1 foHp1_0 sHp1_0
    refine ⟨(by show 2 ≤ sizeLine; decide), fun t1 ht1 => ?_⟩
    have ct1 := same_new (o := .tup [.ref l1, .bl true]) ht1
    have et1 : (upd Hl1 t1 (.tup [.ref l1, .bl true])) t1 = some (.tup [.ref l1, .bl true]) := upd_same
    have foHt1 := foHl1.mono ct1
    have sHt1 := sHl1.trans ct1
    generalize upd Hl1 t1 (.tup [.ref l1, .bl true]) = Ht1 at ct1 et1 foHt1 sHt1 ⊢
    have ep1_0 := ct1 _ _ ep1_0
    have el1 := ct1 _ _ el1
    clear ct1 ht1 foHl1 sHl1
    have du1 : DueOk g Ht1 (.ref t1) ([(0, 2)]) true := ⟨t1, l1, _, rfl, et1, el1, gl1, .cons ⟨p1_0, rfl, ep1_0⟩ .nil⟩
    clear ep1_0 el1 et1 gl1
    refine ⟨(by show 2 ≤ sizeLine; decide), fun p2_0 hp2_0 => ?_⟩
    have cp2_0 := same_new (o := .tup [.int 0, .int 2]) hp2_0
    have ep2_0 : (upd Ht1 p2_0 (.tup [.int 0, .int 2])) p2_0 = some (.tup [.int 0, .int 2]) := upd_same
    have foHp2_0 := foHt1.mono cp2_0
    have sHp2_0 := sHt1.trans cp2_0
    generalize upd Ht1 p2_0 (.tup [.int 0, .int 2]) = Hp2_0 at cp2_0 ep2_0 foHp2_0 sHp2_0 ⊢
    have du1 := du1.mono cp2_0
    clear cp2_0 hp2_0 foHt1 sHt1
    refine ⟨(by show 2 ≤ sizeLine; decide), fun p2_1 hp2_1 => ?_⟩
    have cp2_1 := same_new (o := .tup [.int 0, .int 1]) hp2_1
    have ep2_1 : (upd Hp2_0 p2_1 (.tup [.int 0, .int 1])) p2_1 = some (.tup [.int 0, .int 1]) := upd_same
    have foHp2_1 := foHp2_0.mono cp2_1
    have sHp2_1 := sHp2_0.trans cp2_1
    generalize upd Hp2_0 p2_1 (.tup [.int 0, .int 1]) = Hp2_1 at cp2_1 ep2_1 foHp2_1 sHp2_1 ⊢
    have ep2_0 := cp2_1 _ _ ep2_0
    have du1 := du1.mono cp2_1
    clear cp2_1 hp2_1 foHp2_0 sHp2_0
    refine ⟨(by show 2 ≤ sizeLine; decide), fun l2 hl2 => ?_⟩
    have cl2 := same_new (o := .lst [.ref p2_0, .ref p2_1]) hl2
    have el2 : (upd Hp2_1 l2 (.lst [.ref p2_0, .ref p2_1])) l2 = some (.lst [.ref p2_0, .ref p2_1]) := upd_same
    have gl2 : l2 ≠ g := (ne_of_none foHp2_1.hgl hl2).symm
    have foHl2 := foHp2_1.mono cl2
    have sHl2 := sHp2_1.trans cl2
    generalize upd Hp2_1 l2 (.lst [.ref p2_0, .ref p2_1]) = Hl2 at cl2 el2 foHl2 sHl2 ⊢
    have ep2_0 := cl2 _ _ ep2_0
    have ep2_1 := cl2 _ _ ep2_1
    have du1 := du1.mono cl2
    clear cl2 hl2 foHp2_1 sHp2_1
    refine ⟨(by show 2 ≤ sizeLine; decide), fun t2 ht2 => ?_⟩
    have ct2 := same_new (o := .tup [.ref l2, .bl false]) ht2
    have et2 : (upd Hl2 t2 (.tup [.ref l2, .bl false])) t2 = some (.tup [.ref l2, .bl false]) := upd_same
    have foHt2 := foHl2.mono ct2
    have sHt2 := sHl2.trans ct2
    generalize upd Hl2 t2 (.tup [.ref l2, .bl false]) = Ht2 at ct2 et2 foHt2 sHt2 ⊢
    have ep2_0 := ct2 _ _ ep2_0
    have ep2_1 := ct2 _ _ ep2_1
    have el2 := ct2 _ _ el2
    have du1 := du1.mono ct2
    clear ct2 ht2 foHl2 sHl2
    have du2 : DueOk g Ht2 (.ref t2) ([(0, 2), (0, 1)]) false := ⟨t2, l2, _, rfl, et2, el2, gl2, .cons ⟨p2_0, rfl, ep2_0⟩ (.cons ⟨p2_1, rfl, ep2_1⟩ .nil)⟩
    clear ep2_0 ep2_1 el2 et2 gl2
    refine ⟨(by show 2 ≤ sizeLine; decide), fun p3_0 hp3_0 => ?_⟩
    have cp3_0 := same_new (o := .tup [.int 0, .int 1]) hp3_0
    have ep3_0 : (upd Ht2 p3_0 (.tup [.int 0, .int 1])) p3_0 = some (.tup [.int 0, .int 1]) := upd_same
    have foHp3_0 := foHt2.mono cp3_0
    have sHp3_0 := sHt2.trans cp3_0
    generalize upd Ht2 p3_0 (.tup [.int 0, .int 1]) = Hp3_0 at cp3_0 ep3_0 foHp3_0 sHp3_0 ⊢
    have du1 := du1.mono cp3_0
    have du2 := du2.mono cp3_0
    clear cp3_0 hp3_0 foHt2 sHt2
    refine ⟨(by show 1 ≤ sizeLine; decide), fun l3 hl3 => ?_⟩
    have cl3 := same_new (o := .lst [.ref p3_0]) hl3
    have el3 : (upd Hp3_0 l3 (.lst [.ref p3_0])) l3 = some (.lst [.ref p3_0]) := upd_same
    have gl3 : l3 ≠ g := (ne_of_none foHp3_0.hgl hl3).symm
    have foHl3 := foHp3_0.mono cl3
    have sHl3 := sHp3_0.trans cl3
    generalize upd Hp3_0 l3 (.lst [.ref p3_0]) = Hl3 at cl3 el3 foHl3 sHl3 ⊢
    have ep3_0 := cl3 _ _ ep3_0
    have du1 := du1.mono cl3
    have du2 := du2.mono cl3
    clear cl3 hl3 foHp3_0 sHp3_0
    refine ⟨(by show 2 ≤ sizeLine; decide), fun t3 ht3 => ?_⟩
    have ct3 := same_new (o := .tup [.ref l3, .bl false]) ht3
    have et3 : (upd Hl3 t3 (.tup [.ref l3, .bl false])) t3 = some (.tup [.ref l3, .bl false]) := upd_same
    have foHt3 := foHl3.mono ct3
    have sHt3 := sHl3.trans ct3
    generalize upd Hl3 t3 (.tup [.ref l3, .bl false]) = Ht3 at ct3 et3 foHt3 sHt3 ⊢
    have ep3_0 := ct3 _ _ ep3_0
    have el3 := ct3 _ _ el3
    have du1 := du1.mono ct3
    have du2 := du2.mono ct3
    clear ct3 ht3 foHl3 sHl3
    have du3 : DueOk g Ht3 (.ref t3) ([(0, 1)]) false := ⟨t3, l3, _, rfl, et3, el3, gl3, .cons ⟨p3_0, rfl, ep3_0⟩ .nil⟩
    clear ep3_0 el3 et3 gl3
    refine ⟨(by show 2 ≤ sizeLine; decide), fun p4_0 hp4_0 => ?_⟩
    have cp4_0 := same_new (o := .tup [.int 2, .int 0]) hp4_0
    have ep4_0 : (upd Ht3 p4_0 (.tup [.int 2, .int 0])) p4_0 = some (.tup [.int 2, .int 0]) := upd_same
    have foHp4_0 := foHt3.mono cp4_0
    have sHp4_0 := sHt3.trans cp4_0
    generalize upd Ht3 p4_0 (.tup [.int 2, .int 0]) = Hp4_0 at cp4_0 ep4_0 foHp4_0 sHp4_0 ⊢
    have du1 := du1.mono cp4_0
    have du2 := du2.mono cp4_0
    have du3 := du3.mono cp4_0
    clear cp4_0 hp4_0 foHt3 sHt3
    refine ⟨(by show 1 ≤ sizeLine; decide), fun l4 hl4 => ?_⟩
    have cl4 := same_new (o := .lst [.ref p4_0]) hl4
    have el4 : (upd Hp4_0 l4 (.lst [.ref p4_0])) l4 = some (.lst [.ref p4_0]) := upd_same
    have gl4 : l4 ≠ g := (ne_of_none foHp4_0.hgl hl4).symm
    have foHl4 := foHp4_0.mono cl4
    have sHl4 := sHp4_0.trans cl4
    generalize upd Hp4_0 l4 (.lst [.ref p4_0]) = Hl4 at cl4 el4 foHl4 sHl4 ⊢
    have ep4_0 := cl4 _ _ ep4_0
    have du1 := du1.mono cl4
    have du2 := du2.mono cl4
    have du3 := du3.mono cl4
    clear cl4 hl4 foHp4_0 sHp4_0
    refine ⟨(by show 2 ≤ sizeLine; decide), fun t4 ht4 => ?_⟩
    have ct4 := same_new (o := .tup [.ref l4, .bl false]) ht4
    have et4 : (upd Hl4 t4 (.tup [.ref l4, .bl false])) t4 = some (.tup [.ref l4, .bl false]) := upd_same
    have foHt4 := foHl4.mono ct4
    have sHt4 := sHl4.trans ct4
    generalize upd Hl4 t4 (.tup [.ref l4, .bl false]) = Ht4 at ct4 et4 foHt4 sHt4 ⊢
    have ep4_0 := ct4 _ _ ep4_0
    have el4 := ct4 _ _ el4
    have du1 := du1.mono ct4
    have du2 := du2.mono ct4
    have du3 := du3.mono ct4
    clear ct4 ht4 foHl4 sHl4
    have du4 : DueOk g Ht4 (.ref t4) ([(2, 0)]) false := ⟨t4, l4, _, rfl, et4, el4, gl4, .cons ⟨p4_0, rfl, ep4_0⟩ .nil⟩
    clear ep4_0 el4 et4 gl4
    refine ⟨Nat.zero_le _, fun l5 hl5 => ?_⟩
    have cl5 := same_new (o := .lst []) hl5
    have el5 : (upd Ht4 l5 (.lst [])) l5 = some (.lst []) := upd_same
    have gl5 : l5 ≠ g := (ne_of_none foHt4.hgl hl5).symm
    have foHl5 := foHt4.mono cl5
    have sHl5 := sHt4.trans cl5
    generalize upd Ht4 l5 (.lst []) = Hl5 at cl5 el5 foHl5 sHl5 ⊢
    have du1 := du1.mono cl5
    have du2 := du2.mono cl5
    have du3 := du3.mono cl5
    have du4 := du4.mono cl5
    clear cl5 hl5 foHt4 sHt4
    refine ⟨(by show 2 ≤ sizeLine; decide), fun t5 ht5 => ?_⟩
    have ct5 := same_new (o := .tup [.ref l5, .bl false]) ht5
    have et5 : (upd Hl5 t5 (.tup [.ref l5, .bl false])) t5 = some (.tup [.ref l5, .bl false]) := upd_same
    have foHt5 := foHl5.mono ct5
    have sHt5 := sHl5.trans ct5
    generalize upd Hl5 t5 (.tup [.ref l5, .bl false]) = Ht5 at ct5 et5 foHt5 sHt5 ⊢
    have el5 := ct5 _ _ el5
    have du1 := du1.mono ct5
    have du2 := du2.mono ct5
    have du3 := du3.mono ct5
    have du4 := du4.mono ct5
    clear ct5 ht5 foHl5 sHl5
    have du5 : DueOk g Ht5 (.ref t5) ([]) false := ⟨t5, l5, _, rfl, et5, el5, gl5, .nil⟩
    clear el5 et5 gl5
    refine ⟨(by show 5 ≤ sizeLine; decide), fun L1 hL1 => ?_⟩
    have cL1 := same_new (o := .lst [.ref t1, .ref t2, .ref t3, .ref t4, .ref t5]) hL1
    have eL1 : (upd Ht5 L1 (.lst [.ref t1, .ref t2, .ref t3, .ref t4, .ref t5])) L1 = some (.lst [.ref t1, .ref t2, .ref t3, .ref t4, .ref t5]) := upd_same
    have gL1 : L1 ≠ g := (ne_of_none foHt5.hgl hL1).symm
    have foHL1 := foHt5.mono cL1
    have sHL1 := sHt5.trans cL1
    generalize upd Ht5 L1 (.lst [.ref t1, .ref t2, .ref t3, .ref t4, .ref t5]) = HL1 at cL1 eL1 foHL1 sHL1 ⊢
    have du1 := du1.mono cL1
    have du2 := du2.mono cL1
    have du3 := du3.mono cL1
    have du4 := du4.mono cL1
    have du5 := du5.mono cL1
    clear cL1 hL1
    refine ⟨.ref L1, rfl, ?_⟩
    have keepL1 : Kp HL1 L1 (.lst [.ref t1, .ref t2, .ref t3, .ref t4, .ref t5]) := ⟨eL1⟩
    clear eL1
    refine ⟨(by show 2 ≤ sizeLine; decide), fun p6_0 hp6_0 => ?_⟩
    have cp6_0 := same_new (o := .tup [.int 0, .int 3]) hp6_0
    have ep6_0 : (upd HL1 p6_0 (.tup [.int 0, .int 3])) p6_0 = some (.tup [.int 0, .int 3]) := upd_same
    have foHp6_0 := foHL1.mono cp6_0
    have sHp6_0 := sHL1.trans cp6_0
    generalize upd HL1 p6_0 (.tup [.int 0, .int 3]) = Hp6_0 at cp6_0 ep6_0 foHp6_0 sHp6_0 ⊢
    have du1 := du1.mono cp6_0
    have du2 := du2.mono cp6_0
    have du3 := du3.mono cp6_0
    have du4 := du4.mono cp6_0
    have du5 := du5.mono cp6_0
    have keepL1 := keepL1.mono cp6_0
    clear cp6_0 hp6_0 foHL1 sHL1
    refine ⟨(by show 1 ≤ sizeLine; decide), fun l6 hl6 => ?_⟩
    have cl6 := same_new (o := .lst [.ref p6_0]) hl6
    have el6 : (upd Hp6_0 l6 (.lst [.ref p6_0])) l6 = some (.lst [.ref p6_0]) := upd_same
    have gl6 : l6 ≠ g := (ne_of_none foHp6_0.hgl hl6).symm
    have foHl6 := foHp6_0.mono cl6
    have sHl6 := sHp6_0.trans cl6
    generalize upd Hp6_0 l6 (.lst [.ref p6_0]) = Hl6 at cl6 el6 foHl6 sHl6 ⊢
    have ep6_0 := cl6 _ _ ep6_0
    have du1 := du1.mono cl6
    have du2 := du2.mono cl6
    have du3 := du3.mono cl6
    have du4 := du4.mono cl6
    have du5 := du5.mono cl6
    have keepL1 := keepL1.mono cl6
    clear cl6 hl6 foHp6_0 sHp6_0
    refine ⟨(by show 2 ≤ sizeLine; decide), fun t6 ht6 => ?_⟩
    have ct6 := same_new (o := .tup [.ref l6, .bl false]) ht6
    have et6 : (upd Hl6 t6 (.tup [.ref l6, .bl false])) t6 = some (.tup [.ref l6, .bl false]) := upd_same
    have foHt6 := foHl6.mono ct6
    have sHt6 := sHl6.trans ct6
    generalize upd Hl6 t6 (.tup [.ref l6, .bl false]) = Ht6 at ct6 et6 foHt6 sHt6 ⊢
    have ep6_0 := ct6 _ _ ep6_0
    have el6 := ct6 _ _ el6
    have du1 := du1.mono ct6
    have du2 := du2.mono ct6
    have du3 := du3.mono ct6
    have du4 := du4.mono ct6
    have du5 := du5.mono ct6
    have keepL1 := keepL1.mono ct6
    clear ct6 ht6 foHl6 sHl6
    have du6 : DueOk g Ht6 (.ref t6) ([(0, 3)]) false := ⟨t6, l6, _, rfl, et6, el6, gl6, .cons ⟨p6_0, rfl, ep6_0⟩ .nil⟩
    clear ep6_0 el6 et6 gl6
    refine ⟨(by show 2 ≤ sizeLine; decide), fun p7_0 hp7_0 => ?_⟩
    have cp7_0 := same_new (o := .tup [.int 0, .int 1]) hp7_0
    have ep7_0 : (upd Ht6 p7_0 (.tup [.int 0, .int 1])) p7_0 = some (.tup [.int 0, .int 1]) := upd_same
    have foHp7_0 := foHt6.mono cp7_0
    have sHp7_0 := sHt6.trans cp7_0
    generalize upd Ht6 p7_0 (.tup [.int 0, .int 1]) = Hp7_0 at cp7_0 ep7_0 foHp7_0 sHp7_0 ⊢
    have du1 := du1.mono cp7_0
    have du2 := du2.mono cp7_0
    have du3 := du3.mono cp7_0
    have du4 := du4.mono cp7_0
    have du5 := du5.mono cp7_0
    have keepL1 := keepL1.mono cp7_0
    have du6 := du6.mono cp7_0
    clear cp7_0 hp7_0 foHt6 sHt6
    refine ⟨(by show 2 ≤ sizeLine; decide), fun p7_1 hp7_1 => ?_⟩
    have cp7_1 := same_new (o := .tup [.int 0, .int 2]) hp7_1
    have ep7_1 : (upd Hp7_0 p7_1 (.tup [.int 0, .int 2])) p7_1 = some (.tup [.int 0, .int 2]) := upd_same
    have foHp7_1 := foHp7_0.mono cp7_1
    have sHp7_1 := sHp7_0.trans cp7_1
    generalize upd Hp7_0 p7_1 (.tup [.int 0, .int 2]) = Hp7_1 at cp7_1 ep7_1 foHp7_1 sHp7_1 ⊢
    have ep7_0 := cp7_1 _ _ ep7_0
    have du1 := du1.mono cp7_1
    have du2 := du2.mono cp7_1
    have du3 := du3.mono cp7_1
    have du4 := du4.mono cp7_1
    have du5 := du5.mono cp7_1
    have keepL1 := keepL1.mono cp7_1
    have du6 := du6.mono cp7_1
    clear cp7_1 hp7_1 foHp7_0 sHp7_0
    refine ⟨(by show 2 ≤ sizeLine; decide), fun l7 hl7 => ?_⟩
    have cl7 := same_new (o := .lst [.ref p7_0, .ref p7_1]) hl7
    have el7 : (upd Hp7_1 l7 (.lst [.ref p7_0, .ref p7_1])) l7 = some (.lst [.ref p7_0, .ref p7_1]) := upd_same
    have gl7 : l7 ≠ g := (ne_of_none foHp7_1.hgl hl7).symm
    have foHl7 := foHp7_1.mono cl7
    have sHl7 := sHp7_1.trans cl7
    generalize upd Hp7_1 l7 (.lst [.ref p7_0, .ref p7_1]) = Hl7 at cl7 el7 foHl7 sHl7 ⊢
    have ep7_0 := cl7 _ _ ep7_0
    have ep7_1 := cl7 _ _ ep7_1
    have du1 := du1.mono cl7
    have du2 := du2.mono cl7
    have du3 := du3.mono cl7
    have du4 := du4.mono cl7
    have du5 := du5.mono cl7
    have keepL1 := keepL1.mono cl7
    have du6 := du6.mono cl7
    clear cl7 hl7 foHp7_1 sHp7_1
    refine ⟨(by show 2 ≤ sizeLine; decide), fun t7 ht7 => ?_⟩
    have ct7 := same_new (o := .tup [.ref l7, .bl false]) ht7
    have et7 : (upd Hl7 t7 (.tup [.ref l7, .bl false])) t7 = some (.tup [.ref l7, .bl false]) := upd_same
    have foHt7 := foHl7.mono ct7
    have sHt7 := sHl7.trans ct7
    generalize upd Hl7 t7 (.tup [.ref l7, .bl false]) = Ht7 at ct7 et7 foHt7 sHt7 ⊢
    have ep7_0 := ct7 _ _ ep7_0
    have ep7_1 := ct7 _ _ ep7_1
    have el7 := ct7 _ _ el7
    have du1 := du1.mono ct7
    have du2 := du2.mono ct7
    have du3 := du3.mono ct7
    have du4 := du4.mono ct7
    have du5 := du5.mono ct7
    have keepL1 := keepL1.mono ct7
    have du6 := du6.mono ct7
    clear ct7 ht7 foHl7 sHl7
    have du7 : DueOk g Ht7 (.ref t7) ([(0, 1), (0, 2)]) false := ⟨t7, l7, _, rfl, et7, el7, gl7, .cons ⟨p7_0, rfl, ep7_0⟩ (.cons ⟨p7_1, rfl, ep7_1⟩ .nil)⟩
    clear ep7_0 ep7_1 el7 et7 gl7
    refine ⟨(by show 2 ≤ sizeLine; decide), fun p8_0 hp8_0 => ?_⟩
    have cp8_0 := same_new (o := .tup [.int 0, .int 1]) hp8_0
    have ep8_0 : (upd Ht7 p8_0 (.tup [.int 0, .int 1])) p8_0 = some (.tup [.int 0, .int 1]) := upd_same
    have foHp8_0 := foHt7.mono cp8_0
    have sHp8_0 := sHt7.trans cp8_0
    generalize upd Ht7 p8_0 (.tup [.int 0, .int 1]) = Hp8_0 at cp8_0 ep8_0 foHp8_0 sHp8_0 ⊢
    have du1 := du1.mono cp8_0
    have du2 := du2.mono cp8_0
    have du3 := du3.mono cp8_0
    have du4 := du4.mono cp8_0
    have du5 := du5.mono cp8_0
    have keepL1 := keepL1.mono cp8_0
    have du6 := du6.mono cp8_0
    have du7 := du7.mono cp8_0
    clear cp8_0 hp8_0 foHt7 sHt7
    refine ⟨(by show 1 ≤ sizeLine; decide), fun l8 hl8 => ?_⟩
    have cl8 := same_new (o := .lst [.ref p8_0]) hl8
    have el8 : (upd Hp8_0 l8 (.lst [.ref p8_0])) l8 = some (.lst [.ref p8_0]) := upd_same
    have gl8 : l8 ≠ g := (ne_of_none foHp8_0.hgl hl8).symm
    have foHl8 := foHp8_0.mono cl8
    have sHl8 := sHp8_0.trans cl8
    generalize upd Hp8_0 l8 (.lst [.ref p8_0]) = Hl8 at cl8 el8 foHl8 sHl8 ⊢
    have ep8_0 := cl8 _ _ ep8_0
    have du1 := du1.mono cl8
    have du2 := du2.mono cl8
    have du3 := du3.mono cl8
    have du4 := du4.mono cl8
    have du5 := du5.mono cl8
    have keepL1 := keepL1.mono cl8
    have du6 := du6.mono cl8
    have du7 := du7.mono cl8
    clear cl8 hl8 foHp8_0 sHp8_0
    refine ⟨l8, 3000, _, rfl, rfl, el8, by decide, by decide, (by show 1 * 3000 ≤ sizeLine; decide), fun r8 hr8 => ?_⟩
    have fl : (List.replicate (Int.toNat 3000) [V.ref p8_0]).flatten = List.replicate 3000 (V.ref p8_0) := flat_rep 3000 _
    rw [fl]
    clear fl
    have cr8 := same_new (o := .lst (List.replicate 3000 (.ref p8_0))) hr8
    have er8 : (upd Hl8 r8 (.lst (List.replicate 3000 (.ref p8_0)))) r8 = some (.lst (List.replicate 3000 (.ref p8_0))) := upd_same
    have gr8 : r8 ≠ g := (ne_of_none foHl8.hgl hr8).symm
    have foHr8 := foHl8.mono cr8
    have sHr8 := sHl8.trans cr8
    generalize upd Hl8 r8 (.lst (List.replicate 3000 (.ref p8_0))) = Hr8 at cr8 er8 foHr8 sHr8 ⊢
    have ep8_0 := cr8 _ _ ep8_0
    have el8 := cr8 _ _ el8
    have du1 := du1.mono cr8
    have du2 := du2.mono cr8
    have du3 := du3.mono cr8
    have du4 := du4.mono cr8
    have du5 := du5.mono cr8
    have keepL1 := keepL1.mono cr8
    have du6 := du6.mono cr8
    have du7 := du7.mono cr8
    clear cr8 hr8 foHl8 sHl8
    refine ⟨(by show 2 ≤ sizeLine; decide), fun t8 ht8 => ?_⟩
    have ct8 := same_new (o := .tup [.ref r8, .bl false]) ht8
    have et8 : (upd Hr8 t8 (.tup [.ref r8, .bl false])) t8 = some (.tup [.ref r8, .bl false]) := upd_same
    have foHt8 := foHr8.mono ct8
    have sHt8 := sHr8.trans ct8
    generalize upd Hr8 t8 (.tup [.ref r8, .bl false]) = Ht8 at ct8 et8 foHt8 sHt8 ⊢
    have ep8_0 := ct8 _ _ ep8_0
    have el8 := ct8 _ _ el8
    have er8 := ct8 _ _ er8
    have du1 := du1.mono ct8
    have du2 := du2.mono ct8
    have du3 := du3.mono ct8
    have du4 := du4.mono ct8
    have du5 := du5.mono ct8
    have keepL1 := keepL1.mono ct8
    have du6 := du6.mono ct8
    have du7 := du7.mono ct8
    clear ct8 ht8 foHr8 sHr8
    have du8 : DueOk g Ht8 (.ref t8) (List.replicate 3000 (0, 1)) false := ⟨t8, r8, _, rfl, et8, er8, gr8, prs_rep ⟨p8_0, rfl, ep8_0⟩ 3000⟩
    clear ep8_0 el8 er8 et8 gr8 gl8
    refine ⟨_, rfl, (by show 2 ≤ sizeLine; decide), fun p9_0 hp9_0 => ?_⟩
    have cp9_0 := same_new (o := .tup [.int 0, .int (-2)]) hp9_0
    have ep9_0 : (upd Ht8 p9_0 (.tup [.int 0, .int (-2)])) p9_0 = some (.tup [.int 0, .int (-2)]) := upd_same
    have foHp9_0 := foHt8.mono cp9_0
    have sHp9_0 := sHt8.trans cp9_0
    generalize upd Ht8 p9_0 (.tup [.int 0, .int (-2)]) = Hp9_0 at cp9_0 ep9_0 foHp9_0 sHp9_0 ⊢
    have du1 := du1.mono cp9_0
    have du2 := du2.mono cp9_0
    have du3 := du3.mono cp9_0
    have du4 := du4.mono cp9_0
    have du5 := du5.mono cp9_0
    have keepL1 := keepL1.mono cp9_0
    have du6 := du6.mono cp9_0
    have du7 := du7.mono cp9_0
    have du8 := du8.mono cp9_0
    clear cp9_0 hp9_0 foHt8 sHt8
    refine ⟨(by show 1 ≤ sizeLine; decide), fun l9 hl9 => ?_⟩
    have cl9 := same_new (o := .lst [.ref p9_0]) hl9
    have el9 : (upd Hp9_0 l9 (.lst [.ref p9_0])) l9 = some (.lst [.ref p9_0]) := upd_same
    have gl9 : l9 ≠ g := (ne_of_none foHp9_0.hgl hl9).symm
    have foHl9 := foHp9_0.mono cl9
    have sHl9 := sHp9_0.trans cl9
    generalize upd Hp9_0 l9 (.lst [.ref p9_0]) = Hl9 at cl9 el9 foHl9 sHl9 ⊢
    have ep9_0 := cl9 _ _ ep9_0
    have du1 := du1.mono cl9
    have du2 := du2.mono cl9
    have du3 := du3.mono cl9
    have du4 := du4.mono cl9
    have du5 := du5.mono cl9
    have keepL1 := keepL1.mono cl9
    have du6 := du6.mono cl9
    have du7 := du7.mono cl9
    have du8 := du8.mono cl9
    clear cl9 hl9 foHp9_0 sHp9_0
    refine ⟨(by show 2 ≤ sizeLine; decide), fun t9 ht9 => ?_⟩
    have ct9 := same_new (o := .tup [.ref l9, .bl false]) ht9
    have et9 : (upd Hl9 t9 (.tup [.ref l9, .bl false])) t9 = some (.tup [.ref l9, .bl false]) := upd_same
    have foHt9 := foHl9.mono ct9
    have sHt9 := sHl9.trans ct9
    generalize upd Hl9 t9 (.tup [.ref l9, .bl false]) = Ht9 at ct9 et9 foHt9 sHt9 ⊢
    have ep9_0 := ct9 _ _ ep9_0
    have el9 := ct9 _ _ el9
    have du1 := du1.mono ct9
    have du2 := du2.mono ct9
    have du3 := du3.mono ct9
    have du4 := du4.mono ct9
    have du5 := du5.mono ct9
    have keepL1 := keepL1.mono ct9
    have du6 := du6.mono ct9
    have du7 := du7.mono ct9
    have du8 := du8.mono ct9
    clear ct9 ht9 foHl9 sHl9
    have du9 : DueOk g Ht9 (.ref t9) ([(0, -2)]) false := ⟨t9, l9, _, rfl, et9, el9, gl9, .cons ⟨p9_0, rfl, ep9_0⟩ .nil⟩
    clear ep9_0 el9 et9 gl9
    refine ⟨(by show 4 ≤ sizeLine; decide), fun L2 hL2 => ?_⟩
    have cL2 := same_new (o := .lst [.ref t6, .ref t7, .ref t8, .ref t9]) hL2
    have eL2 : (upd Ht9 L2 (.lst [.ref t6, .ref t7, .ref t8, .ref t9])) L2 = some (.lst [.ref t6, .ref t7, .ref t8, .ref t9]) := upd_same
    have gL2 : L2 ≠ g := (ne_of_none foHt9.hgl hL2).symm
    have foHL2 := foHt9.mono cL2
    have sHL2 := sHt9.trans cL2
    generalize upd Ht9 L2 (.lst [.ref t6, .ref t7, .ref t8, .ref t9]) = HL2 at cL2 eL2 foHL2 sHL2 ⊢
    have du1 := du1.mono cL2
    have du2 := du2.mono cL2
    have du3 := du3.mono cL2
    have du4 := du4.mono cL2
    have du5 := du5.mono cL2
    have keepL1 := keepL1.mono cL2
    have du6 := du6.mono cL2
    have du7 := du7.mono cL2
    have du8 := du8.mono cL2
    have du9 := du9.mono cL2
    refine ⟨L1, L2, _, _, rfl, rfl, keepL1.h, eL2, (by show 5 + 4 ≤ sizeLine; decide), fun dl hdl => ?_⟩
    have cdl : Same HL2 (upd HL2 dl (.lst [.ref t1, .ref t2, .ref t3, .ref t4, .ref t5, .ref t6, .ref t7, .ref t8, .ref t9])) := same_new hdl
    have edl : (upd HL2 dl (.lst [.ref t1, .ref t2, .ref t3, .ref t4, .ref t5, .ref t6, .ref t7, .ref t8, .ref t9])) dl = some (.lst [.ref t1, .ref t2, .ref t3, .ref t4, .ref t5, .ref t6, .ref t7, .ref t8, .ref t9]) := upd_same
    have gdl : dl ≠ g := (ne_of_none foHL2.hgl hdl).symm
    have foD := foHL2.mono cdl
    have sD := sHL2.trans cdl
    have eapp : upd HL2 dl (.lst ([V.ref t1, V.ref t2, V.ref t3, V.ref t4, V.ref t5] ++ [.ref t6, .ref t7, .ref t8, .ref t9])) = upd HL2 dl (.lst [.ref t1, .ref t2, .ref t3, .ref t4, .ref t5, .ref t6, .ref t7, .ref t8, .ref t9]) := rfl
    rw [eapp]
    clear eapp
    generalize upd HL2 dl (.lst [.ref t1, .ref t2, .ref t3, .ref t4, .ref t5, .ref t6, .ref t7, .ref t8, .ref t9]) = HD at cdl edl foD sD ⊢
    have du1 := du1.mono cdl
    have du2 := du2.mono cdl
    have du3 := du3.mono cdl
    have du4 := du4.mono cdl
    have du5 := du5.mono cdl
    have du6 := du6.mono cdl
    have du7 := du7.mono cdl
    have du8 := du8.mono cdl
    have du9 := du9.mono cdl
    have dues : ∀ d ∈ [V.ref t1, .ref t2, .ref t3, .ref t4, .ref t5, .ref t6, .ref t7, .ref t8, .ref t9], ∃ ps b, DueOk g HD d ps b ∧ ps.length ≤ 3000 ∧ alikeB ((rbeh [0, 2, 4, 2] ps).getD []) = b := fun d hd => by
      simp only [List.mem_cons, List.not_mem_nil, or_false] at hd
      rcases hd with rfl | rfl | rfl | rfl | rfl | rfl | rfl | rfl | rfl
      · exact ⟨_, _, du1, by decide, by decide⟩
      · exact ⟨_, _, du2, by decide, by decide⟩
      · exact ⟨_, _, du3, by decide, by decide⟩
      · exact ⟨_, _, du4, by decide, by decide⟩
      · exact ⟨_, _, du5, by decide, by decide⟩
      · exact ⟨_, _, du6, by decide, by decide⟩
      · exact ⟨_, _, du7, by decide, by decide⟩
      · exact ⟨_, _, du8, by simp, rep_no⟩
      · exact ⟨_, _, du9, by decide, by decide⟩
    clear du1 du2 du3 du4 du5 keepL1 du6 du7 du8 du9 cdl hdl hL2 cL2 eL2 gL2 gL1
    obtain ⟨dx, hx⟩ := id foD.hx
    obtain ⟨wg, hg, pg⟩ := id foD.hg
    have anD : IsAns C_Alike C_Never HD x (some [(0, 2)]) := ⟨g, wg, ⟨dx, hx⟩, hg, pg⟩
    obtain ⟨t1, ty1, ka1, _, _⟩ := isi_ans I cl_Alike cl_Never anD
    refine ⟨.ref x, rfl, _, _, _, _, true, rfl, .own _, ty1, ka1, true, rfl, iteF (A := _) ?_⟩
    have lwg : wg.length = 1 := pd_len pg
    clear anD
    -- made into others
    refine ⟨.ref x, rfl, x, C_Alike, dx, _, _, rfl, hx, cl_Alike.cl, nE, alF_ev g, .ref dl, rfl, tabs.ext sD, fun H3 e3 t3 => ?_⟩
    have fo3 := foD.ext e3
    have hx3 := e3 _ _ hx (fun _ z => nomatch z)
    have hg3 := e3 _ _ hg (fun _ z => nomatch z)
    have tup3 : TupS HD H3 := fun b xs e => e3 _ _ e (fun _ z => nomatch z)
    have tell : ∀ ws ps b, Prs H3 ws ps → alikeB ((rbeh [0, 2, 4, 2] ps).getD []) = b → Tell (fun H' Q' => tMeth C_Alike "shows" (sp_al_shows K C_Alike) [] E0 (tVar 1) (tCons (tVar 0) tNil) [some (.ref r), some (.ref x), some (.ref dl), none, none, none, none] H' Q') H3 g ws b := fun ws ps b pr e H4 s4 hg4 Q4 q4 => by
      have hx4 := s4 _ _ (ne_of hx3 hg3 (by intro z; cases z)) hx3
      have hr4 : Lst H4 r [0, 2, 4, 2] := s4 _ _ fo3.rg fo3.hr
      have pr4 : Prs H4 ws ps := pr.mono fun b xs e => s4 _ _ (ne_of e hg3 (by intro z; cases z)) e
      refine ⟨.ref x, rfl, x, dx, _, rfl, hx4, alF_no g, .ref r, rfl, x, g, r, ws, ps, _, rfl, ⟨dx, hx4⟩, hg4, pr4, hr4.sq, by decide, fun H5 s5 => ?_⟩
      rw [e]
      exact q4 H5 s5
    refine ⟨g, dl, wg, _, rfl, rfl, gdl, hg3, by omega, e3 _ _ edl (fun _ z => nomatch z), fun d hd => ?_, tell wg [(0, 2)] true (pg.mono tup3) (by decide), fun H4 s4 => ⟨true, rfl, iteF ?_⟩⟩
    · obtain ⟨ps, b, ⟨t, l, ws, e, h1, h2, h3, h4⟩, lps, sh⟩ := dues d hd
      exact ⟨t, l, ws, b, e, e3 _ _ h1 (fun _ z => nomatch z), e3 _ _ h2 (fun _ z => nomatch z), h3, by rw [pd_len h4]; omega, tell ws ps b (h4.mono tup3) sh⟩
    have eM := (LamX.ExtN.of sD).trans (e3.trans (.of s4))
    have tM := t3.ext s4
    have foM := fo3.mono s4
    clear tell dues fo3 hx3 hg3 tup3 t3 s4 e3 hx hg pg lwg foD edl sD gdl
    -- the rest: all but the row stands
    have fin : ∀ Hf, Sx r H4 Hf → Q (.bl true) Hf := fun Hf sf => by
      refine q Hf (fun b o e n => sf b o (ne_of_none e hr0) (eM b o e n)) fun p hp => ?_
      obtain ⟨ps, h1, h2, h3⟩ := tM p hp
      refine ⟨ps, sf _ _ (ne_of h1 (show H4 r = _ from foM.hr) (by intro z; cases z)) h1, h2, fun pos cv hc => ?_⟩
      obtain ⟨c, e1, e2⟩ := h3 pos cv hc
      exact ⟨c, e1, sf _ _ (ne_of e2 (show H4 r = _ from foM.hr) (by intro z; unfold LamX.CodeO at z; cases z)) e2⟩
    clear q tM eM tabs hr0
    have s0 : Sx r H4 H4 := Same.sx (Same.refl _)
    -- row[2] = 6
    refine ⟨.ref r, rfl, r, _, 2, 2, rfl, rfl, foM.hr, rfl, ?_⟩
    have foA : Fo C_Alike (upd H4 r (.lst ((([0, 2, 4, 2] : Rw).map V.int).set 2 (.int 6)))) r x g [0, 2, 6, 2] := foM.set (row' := [0, 2, 6, 2])
    have sA : Sx r H4 (upd H4 r (.lst ((([0, 2, 4, 2] : Rw).map V.int).set 2 (.int 6)))) := s0.trans sx_upd
    generalize upd H4 r (.lst ((([0, 2, 4, 2] : Rw).map V.int).set 2 (.int 6))) = HA at foA sA ⊢
    obtain ⟨dx, hx⟩ := id foA.hx
    obtain ⟨wg, hg, pg⟩ := id foA.hg
    refine ⟨.ref x, rfl, x, dx, _, rfl, hx, alF_no g, .ref r, rfl, x, g, r, wg, [(0, 2)], _, rfl, ⟨dx, hx⟩, hg, pg, foA.hr.sq, by decide, fun HB sB => ?_⟩
    rw [show alikeB ((rbeh [0, 2, 6, 2] [(0, 2)]).getD []) = false by decide]
    refine ⟨false, false, rfl, rfl, _, rfl, itN (by decide) ?_⟩
    have foB := foA.mono sB
    have ok6 : Small [0, 2, 6, 2] := by unfold Small RowOk; decide
    refine ⟨.ref r, rfl, .inl ⟨r, _, rfl, foB.hr, ok6, fun HC x2 A2 sC _ an2 _ af2 => ⟨x2, A2, rfl, an2, .ref r, rfl, r, _, rfl, an2, foB.hr.mono sC, ok6, fun HD sD => ?_⟩⟩⟩
    rw [AnsFor.show af2]
    refine ⟨true, true, rfl, rfl, _, rfl, itN (by decide) ?_⟩
    have foD := foB.mono (sC.trans sD)
    have sD' := sA.trans (Same.sx (sB.trans (sC.trans sD)))
    clear hx hg pg foA foB sA sB sC sD an2 af2 foM
    -- row[2] = 4
    refine ⟨.ref r, rfl, r, _, 2, 2, rfl, rfl, foD.hr, rfl, ?_⟩
    have foA : Fo C_Alike (upd HD r (.lst ((([0, 2, 6, 2] : Rw).map V.int).set 2 (.int 4)))) r x g [0, 2, 4, 2] := foD.set (row' := [0, 2, 4, 2])
    have sA : Sx r H4 (upd HD r (.lst ((([0, 2, 6, 2] : Rw).map V.int).set 2 (.int 4)))) := sD'.trans sx_upd
    generalize upd HD r (.lst ((([0, 2, 6, 2] : Rw).map V.int).set 2 (.int 4))) = HA at foA sA ⊢
    clear foD sD'
    -- Never(), [0, 2]
    have ok02 : Small [0, 2] := by unfold Small RowOk; decide
    have ok01 : Small [0, 1] := by unfold Small RowOk; decide
    have ok00 : Small [0, 0] := by unfold Small RowOk; decide
    intro nv dv nx nd _
    have sB : Same HA (upd (upd HA dv (.own nv)) nv (.ins C_Never dv [])) := fun b u z => made_at z nx nd
    have nvB : IsNv C_Never (upd (upd HA dv (.own nv)) nv (.ins C_Never dv [])) nv := ⟨dv, upd_same⟩
    generalize upd (upd HA dv (.own nv)) nv (.ins C_Never dv []) = HB at sB nvB ⊢
    clear nx nd
    refine ⟨(by show 2 ≤ sizeLine; decide), fun tw htw => ⟨_, _, rfl, ?_⟩⟩
    have cB := same_new (o := .lst [.int 0, .int 2]) htw
    have foB := foA.mono sB
    have ntr : tw ≠ r := (ne_of_none (show HB r = _ from foB.hr) htw).symm
    have ntg : tw ≠ g := (ne_of_none foB.hgl htw).symm
    have sB' := sA.trans (Same.sx sB)
    have n4w : H4 tw = none := sx_none sB' ntr htw
    have hwC : Lst (upd HB tw (.lst [.int 0, .int 2])) tw [0, 2] := upd_same
    have foC := foB.mono cB
    have nvC := nv_mono nvB cB
    have sC := sB'.trans (Same.sx cB)
    generalize upd HB tw (.lst [.int 0, .int 2]) = HC at hwC foC nvC sC ⊢
    clear cB foB foA sA sB sB' nvB htw
    -- three told
    obtain ⟨dv, hv⟩ := id nvC
    refine ⟨.ref nv, rfl, nv, dv, _, rfl, hv, rfl, .ref tw, rfl, nv, tw, _, rfl, ⟨dv, hv⟩, hwC, ok02, fun HD sD => ?_⟩
    rw [never_02]
    refine ⟨Nat.zero_le _, fun g0 hg0 => ?_⟩
    have ng0 := same_new (o := .lst []) hg0
    have eg0 : (upd HD g0 (.lst [])) g0 = some (.lst []) := upd_same
    generalize upd HD g0 (.lst []) = HG0 at ng0 eg0 ⊢
    refine fun y dy nx nd _ => ⟨y, dy, g0, _, rfl, upd_same, made_at eg0 nx nd, fun HE o no ho hy hk => ⟨rfl, ?_⟩⟩
    have sE : Same HG0 HE := Same.made nx nd hk
    have ia : IsAl C_Alike HE y o := ⟨dy, hy⟩
    have sE' := (sD.trans ng0).trans sE
    clear hk nx nd no eg0 ng0
    refine ⟨y, dy, _, rfl, hy, alF_no o, .ref tw, rfl, y, o, tw, [], [], _, rfl, ia, ho, .nil, (hwC.mono sE').sq, by decide, fun HF sF => ?_⟩
    rw [show alikeB ((rbeh [0, 2] []).getD []) = false by decide]
    have sF' := sE'.trans sF
    clear hg0 sE sE' sF ia ho hy sD
    refine ⟨(by show 2 ≤ sizeLine; decide), fun p hp => ⟨(by show 1 ≤ sizeLine; decide), fun g1 hg1 => ?_⟩⟩
    have n2 := same_new (o := .tup [.int 0, .int 1]) hp
    have ep : (upd HF p (.tup [.int 0, .int 1])) p = some (.tup [.int 0, .int 1]) := upd_same
    generalize upd HF p (.tup [.int 0, .int 1]) = HP at n2 ep hg1 ⊢
    have n3 := same_new (o := .lst [.ref p]) hg1
    have eg1 : (upd HP g1 (.lst [.ref p])) g1 = some (.lst [.ref p]) := upd_same
    generalize upd HP g1 (.lst [.ref p]) = HG1 at n3 eg1 ⊢
    refine fun y1 dy1 nx nd _ => ⟨y1, dy1, g1, _, rfl, upd_same, made_at eg1 nx nd, fun HG o1 no ho1 hy1 hk => ⟨rfl, ?_⟩⟩
    have sG : Same HG1 HG := Same.made nx nd hk
    have ia1 : IsAl C_Alike HG y1 o1 := ⟨dy1, hy1⟩
    have hpG := sG _ _ (n3 _ _ ep)
    have sG' := ((sF'.trans n2).trans n3).trans sG
    clear hk nx nd no eg1 ep
    refine ⟨y1, dy1, _, rfl, hy1, alF_no o1, .ref tw, rfl, y1, o1, tw, [.ref p], [(0, 1)], _, rfl, ia1, ho1, .cons ⟨p, rfl, hpG⟩ .nil, (hwC.mono sG').sq, by decide, fun HI sI => ?_⟩
    rw [show alikeB ((rbeh [0, 2] [(0, 1)]).getD []) = true by decide]
    refine ⟨(by show 3 ≤ sizeLine; decide), fun tl htl => ?_⟩
    have sI' := sG'.trans sI
    have nJ := same_new (o := .lst [.bl false, .bl false, .bl true]) htl
    have sJ := sI'.trans nJ
    have htJ : (upd HI tl (.lst [.bl false, .bl false, .bl true])) tl = some (.lst [.bl false, .bl false, .bl true]) := upd_same
    have hwJ := hwC.mono sJ
    have ntt : tl ≠ tw := (ne_of_none (show HI tw = _ from hwC.mono sI') htl).symm
    have foJ := foC.mono sJ
    have nvJ := nv_mono nvC sJ
    have sxJ := sC.trans (Same.sx sJ)
    generalize upd HI tl (.lst [.bl false, .bl false, .bl true]) = HJ at htJ hwJ foJ nvJ sxJ ⊢
    clear hwC foC nvC sC sJ nJ sI' sI sG' sG n2 n3 hpG hp hg1 ia1 ho1 hy1 htl sF' hv
    -- two[1] = 1
    refine ⟨.ref tw, rfl, tw, _, 1, 1, rfl, rfl, hwJ, rfl, ?_⟩
    have foK := foJ.oth (o := .lst ((([0, 2] : Rw).map V.int).set 1 (.int 1))) hwJ ntr ntg
    have nvK := nv_oth (o := .lst ((([0, 2] : Rw).map V.int).set 1 (.int 1))) nvJ hwJ
    have sxK := sxJ.new (o := .lst ((([0, 2] : Rw).map V.int).set 1 (.int 1))) n4w
    have hwK : Lst (upd HJ tw (.lst ((([0, 2] : Rw).map V.int).set 1 (.int 1)))) tw [0, 1] := upd_same
    have htK : (upd HJ tw (.lst ((([0, 2] : Rw).map V.int).set 1 (.int 1)))) tl = some (.lst [.bl false, .bl false, .bl true]) := by rw [upd_ne ntt]; exact htJ
    generalize upd HJ tw (.lst ((([0, 2] : Rw).map V.int).set 1 (.int 1))) = HK at foK nvK sxK hwK htK ⊢
    clear foJ nvJ sxJ hwJ htJ ntt
    -- two more told
    obtain ⟨dv, hv⟩ := id nvK
    refine ⟨.ref tl, rfl, .ref nv, rfl, nv, dv, _, rfl, hv, rfl, .ref tw, rfl, nv, tw, _, rfl, ⟨dv, hv⟩, hwK, ok01, fun HD sD => ?_⟩
    rw [never_01]
    refine ⟨(by show 2 ≤ sizeLine; decide), fun p hp => ⟨(by show 1 ≤ sizeLine; decide), fun g1 hg1 => ?_⟩⟩
    have n2 := same_new (o := .tup [.int 0, .int 1]) hp
    have ep : (upd HD p (.tup [.int 0, .int 1])) p = some (.tup [.int 0, .int 1]) := upd_same
    generalize upd HD p (.tup [.int 0, .int 1]) = HP at n2 ep hg1 ⊢
    have n3 := same_new (o := .lst [.ref p]) hg1
    have eg1 : (upd HP g1 (.lst [.ref p])) g1 = some (.lst [.ref p]) := upd_same
    generalize upd HP g1 (.lst [.ref p]) = HG1 at n3 eg1 ⊢
    refine fun y1 dy1 nx nd _ => ⟨y1, dy1, g1, _, rfl, upd_same, made_at eg1 nx nd, fun HG o1 no ho1 hy1 hk => ⟨rfl, ?_⟩⟩
    have sG : Same HG1 HG := Same.made nx nd hk
    have ia1 : IsAl C_Alike HG y1 o1 := ⟨dy1, hy1⟩
    have hpG := sG _ _ (n3 _ _ ep)
    have sG' := ((sD.trans n2).trans n3).trans sG
    clear hk nx nd no eg1 ep
    refine ⟨y1, dy1, _, rfl, hy1, alF_no o1, .ref tw, rfl, y1, o1, tw, [.ref p], [(0, 1)], _, rfl, ia1, ho1, .cons ⟨p, rfl, hpG⟩ .nil, (hwK.mono sG').sq, by decide, fun HI sI => ?_⟩
    rw [show alikeB ((rbeh [0, 1] [(0, 1)]).getD []) = false by decide]
    refine ⟨(by show 2 ≤ sizeLine; decide), fun m hm => ?_⟩
    have sI' := sG'.trans sI
    have n5 := same_new (o := .lst [.bl true, .bl false]) hm
    have hmL : (upd HI m (.lst [.bl true, .bl false])) m = some (.lst [.bl true, .bl false]) := upd_same
    have sL := sI'.trans n5
    generalize upd HI m (.lst [.bl true, .bl false]) = HL at hmL sL ⊢
    refine ⟨tl, m, _, _, rfl, rfl, sL _ _ htK, hmL, (by show 3 + 2 ≤ sizeLine; decide), fun tl2 htl2 => ?_⟩
    have n6 : Same HL (upd HL tl2 (.lst [.bl false, .bl false, .bl true, .bl true, .bl false])) := same_new htl2
    have sM := sL.trans n6
    have htM : (upd HL tl2 (.lst [.bl false, .bl false, .bl true, .bl true, .bl false])) tl2 = some (.lst [.bl false, .bl false, .bl true, .bl true, .bl false]) := upd_same
    have e6 : upd HL tl2 (.lst ([V.bl false, .bl false, .bl true] ++ [.bl true, .bl false])) = upd HL tl2 (.lst [.bl false, .bl false, .bl true, .bl true, .bl false]) := rfl
    rw [e6]
    have hwM := hwK.mono sM
    have foM := foK.mono sM
    have nvM := nv_mono nvK sM
    have sxM := sxK.trans (Same.sx sM)
    have nt2w : tl2 ≠ tw := (ne_of_none (show HL tw = _ from hwK.mono sL) htl2).symm
    have nt2r : tl2 ≠ r := (ne_of_none (show HL r = _ from (foK.mono sL).hr) htl2).symm
    have nt2g : tl2 ≠ g := (ne_of_none (foK.mono sL).hgl htl2).symm
    have n4t : H4 tl2 = none := sx_none (sxK.trans (Same.sx sL)) nt2r htl2
    generalize upd HL tl2 (.lst [.bl false, .bl false, .bl true, .bl true, .bl false]) = HM at htM hwM foM nvM sxM ⊢
    clear e6 n6 sM sL hmL n5 sI' sI sG' sG n2 n3 hpG hp hg1 ia1 ho1 hy1 htl2 hm foK nvK sxK hwK htK hv sD
    -- one more
    refine ⟨.ref tl2, rfl, .inl ⟨rfl, _, SqL.of htM⟩, .ref tw, rfl, .inl ⟨tw, _, rfl, hwM, ok01, fun HN x3 A3 sN _ an3 _ af3 => ?_⟩⟩
    obtain rfl := ans_01 af3
    obtain ⟨t3, ty3, _, kn3, _⟩ := isi_ans I cl_Alike cl_Never an3
    refine ⟨_, _, _, _, true, rfl, .own _, ty3, kn3, tl2, _, _, rfl, rfl, sN _ _ htM, (by show 5 < sizeLine; decide), ?_⟩
    have htN := sN _ _ htM
    have hwN := hwM.mono sN
    have foO := (foM.mono sN).oth (o := .lst ([V.bl false, .bl false, .bl true, .bl true, .bl false] ++ [.bl true])) htN nt2r nt2g
    have nvO := nv_oth (o := .lst ([V.bl false, .bl false, .bl true, .bl true, .bl false] ++ [.bl true])) (nv_mono nvM sN) htN
    have sxO := (sxM.trans (Same.sx sN)).new (o := .lst ([V.bl false, .bl false, .bl true, .bl true, .bl false] ++ [.bl true])) n4t
    have hwO : Lst (upd HN tl2 (.lst ([V.bl false, .bl false, .bl true, .bl true, .bl false] ++ [.bl true]))) tw [0, 1] := by unfold Lst; rw [upd_ne nt2w.symm]; exact hwN
    have htO : (upd HN tl2 (.lst ([V.bl false, .bl false, .bl true, .bl true, .bl false] ++ [.bl true]))) tl2 = some (.lst [.bl false, .bl false, .bl true, .bl true, .bl false, .bl true]) := upd_same
    generalize upd HN tl2 (.lst ([V.bl false, .bl false, .bl true, .bl true, .bl false] ++ [.bl true])) = HO at foO nvO sxO hwO htO ⊢
    clear htM hwM foM nvM sxM htN hwN sN an3 af3 ty3 kn3
    -- two[1] = 0
    refine ⟨.ref tw, rfl, tw, _, 1, 1, rfl, rfl, hwO, rfl, ?_⟩
    have foK := foO.oth (o := .lst ((([0, 1] : Rw).map V.int).set 1 (.int 0))) hwO ntr ntg
    have nvK := nv_oth (o := .lst ((([0, 1] : Rw).map V.int).set 1 (.int 0))) nvO hwO
    have sxK := sxO.new (o := .lst ((([0, 1] : Rw).map V.int).set 1 (.int 0))) n4w
    have hwK : Lst (upd HO tw (.lst ((([0, 1] : Rw).map V.int).set 1 (.int 0)))) tw [0, 0] := upd_same
    have htK : (upd HO tw (.lst ((([0, 1] : Rw).map V.int).set 1 (.int 0)))) tl2 = some (.lst [.bl false, .bl false, .bl true, .bl true, .bl false, .bl true]) := by rw [upd_ne nt2w]; exact htO
    generalize upd HO tw (.lst ((([0, 1] : Rw).map V.int).set 1 (.int 0))) = HK at foK nvK sxK hwK htK ⊢
    clear foO nvO sxO hwO htO
    -- the last three
    obtain ⟨dv, hv⟩ := id nvK
    refine ⟨.ref tl2, rfl, .ref nv, rfl, nv, dv, _, rfl, hv, rfl, .ref tw, rfl, nv, tw, _, rfl, ⟨dv, hv⟩, hwK, ok00, fun HD sD => ?_⟩
    rw [never_00]
    refine ⟨Nat.zero_le _, fun g0 hg0 => ?_⟩
    have ng0 := same_new (o := .lst []) hg0
    have eg0 : (upd HD g0 (.lst [])) g0 = some (.lst []) := upd_same
    generalize upd HD g0 (.lst []) = HG0 at ng0 eg0 ⊢
    refine fun y dy nx nd _ => ⟨y, dy, g0, _, rfl, upd_same, made_at eg0 nx nd, fun HE o no ho hy hk => ⟨rfl, ?_⟩⟩
    have sE : Same HG0 HE := Same.made nx nd hk
    have ia : IsAl C_Alike HE y o := ⟨dy, hy⟩
    have sE' := (sD.trans ng0).trans sE
    clear hk nx nd no eg0 ng0
    refine ⟨y, dy, _, rfl, hy, alF_no o, .ref tw, rfl, y, o, tw, [], [], _, rfl, ia, ho, .nil, (hwK.mono sE').sq, by decide, fun HF sF => ?_⟩
    rw [show alikeB ((rbeh [0, 0] []).getD []) = true by decide]
    have sF' := sE'.trans sF
    clear hg0 sE sE' sF ia ho hy sD
    refine ⟨.ref tw, rfl, .inl ⟨tw, _, rfl, hwK.mono sF', ok00, fun HN x3 A3 sN _ an3 _ af3 => ?_⟩⟩
    obtain rfl := ans_00 af3
    obtain ⟨g3, w3, ⟨dx3, hx3⟩, hg3, pr3⟩ := an3
    refine ⟨x3, C_Alike, dx3, _, _, rfl, hx3, cl_Alike.cl, nE, alF_ev g3, Nat.zero_le _, fun z hz => ?_⟩
    have nz : Same HN (upd HN z (.lst [])) := same_new hz
    refine ⟨prsD [], prsD [], dp_prs (SqL.of (nz _ _ hg3)) (pr3.mono (Same.tups nz)), dp_prs (SqL.of upd_same) .nil, shaped_prs _, shaped_prs _, ?_⟩
    rw [eqv_prs, decide_eq_true rfl]
    refine ⟨(by show 3 ≤ sizeLine; decide), fun m hm => ?_⟩
    have sZ := (sF'.trans sN).trans nz
    have n5 := same_new (o := .lst [.bl false, .bl true, .bl true]) hm
    have hmL : (upd (upd HN z (.lst [])) m (.lst [.bl false, .bl true, .bl true])) m = some (.lst [.bl false, .bl true, .bl true]) := upd_same
    have sL := sZ.trans n5
    generalize upd (upd HN z (.lst [])) m (.lst [.bl false, .bl true, .bl true]) = HL at hmL sL ⊢
    refine ⟨tl2, m, _, _, rfl, rfl, sL _ _ htK, hmL, (by show 6 + 3 ≤ sizeLine; decide), fun tl3 htl3 => ?_⟩
    have n6 : Same HL (upd HL tl3 (.lst ([false, false, true, true, false, true, false, true, true].map V.bl))) := same_new htl3
    have e6 : upd HL tl3 (.lst ([V.bl false, .bl false, .bl true, .bl true, .bl false, .bl true] ++ [.bl false, .bl true, .bl true])) = upd HL tl3 (.lst ([false, false, true, true, false, true, false, true, true].map V.bl)) := rfl
    rw [e6]
    have htM : (upd HL tl3 (.lst ([false, false, true, true, false, true, false, true, true].map V.bl))) tl3 = some (.lst ([false, false, true, true, false, true, false, true, true].map V.bl)) := upd_same
    have foM := foK.mono (sL.trans n6)
    have sxM := sxK.trans (Same.sx (sL.trans n6))
    generalize upd HL tl3 (.lst ([false, false, true, true, false, true, false, true, true].map V.bl)) = HM at htM foM sxM ⊢
    clear e6 n6 sL hmL n5 sZ nz hz hm htl3 foK nvK sxK hwK htK hv sF' sN hx3 hg3 pr3 af3
    -- all told as due
    refine ⟨.ref tl3, rfl, (by show 9 ≤ sizeLine; decide), fun z hz => ?_⟩
    have nz : Same HM (upd HM z (.lst ([false, false, true, true, false, true, false, true, true].map V.bl))) := same_new hz
    refine ⟨boolsD [false, false, true, true, false, true, false, true, true], boolsD [false, false, true, true, false, true, false, true, true], dp_bools (nz _ _ htM), dp_bools upd_same, shaped_bools _, shaped_bools _, _, rfl, itN (nq_bools _) ?_⟩
    have foN := foM.mono nz
    have sxN := sxM.trans (Same.sx nz)
    have ez : upd HM z (.lst [V.bl false, .bl false, .bl true, .bl true, .bl false, .bl true, .bl false, .bl true, .bl true]) = upd HM z (.lst ([false, false, true, true, false, true, false, true, true].map V.bl)) := rfl
    rw [ez]
    generalize upd HM z (.lst ([false, false, true, true, false, true, false, true, true].map V.bl)) = HN at foN sxN nz ⊢
    clear ez
    obtain ⟨dx, hx⟩ := id foN.hx
    obtain ⟨wg, hg, pg⟩ := id foN.hg
    refine ⟨.ref x, rfl, x, dx, _, rfl, hx, alF_no g, .ref r, rfl, x, g, r, wg, [(0, 2)], _, rfl, ⟨dx, hx⟩, hg, pg, foN.hr.sq, by decide, fun HB sB => ?_⟩
    rw [show alikeB ((rbeh [0, 2, 4, 2] [(0, 2)]).getD []) = true by decide]
    refine ⟨true, true, rfl, rfl, _, rfl, itN (by decide) ?_⟩
    have sxB := sxN.trans (Same.sx sB)
    have hrB := foN.hr.mono sB
    clear hx hg pg foN sxN sB nz hz htM foM sxM
    -- some
    have okS : RowOk [1, 3, 5] 12 1000000 := by unfold RowOk; decide
    have okT : RowOk [1, 9, 5] 12 1000000 := by unfold RowOk; decide
    refine ⟨(by show 3 ≤ sizeLine; decide), fun v hv => ?_⟩
    have nvr : v ≠ r := (ne_of_none (show HB r = _ from hrB) hv).symm
    have n4v : H4 v = none := sx_none sxB nvr hv
    have nS := same_new (o := .lst [.int 1, .int 3, .int 5]) hv
    have hvS : Lst (upd HB v (.lst [.int 1, .int 3, .int 5])) v [1, 3, 5] := upd_same
    have sxS := sxB.trans (Same.sx nS)
    generalize upd HB v (.lst [.int 1, .int 3, .int 5]) = HS at hvS sxS nS ⊢
    refine ⟨.ref v, rfl, (by show 2 ≤ sizeLine; decide), fun t ht => .inl ⟨v, t, [1, 3, 5], (0, 2), rfl, hvS.mono (same_new ht), okS, upd_same, by decide, fun HU o sU ho hO => ?_⟩⟩
    rw [show behP [1, 3, 5] (0, 2) = [3, 3, 3] by decide] at hO
    have sU' := (same_new (o := .tup [.int 0, .int 2]) ht).trans sU
    refine ⟨(by show 3 ≤ sizeLine; decide), fun l hl => ?_⟩
    refine ⟨rowD [3, 3, 3], rowD [3, 3, 3], dp_row' (hO.mono (same_new hl)), dp_row (SqL.of upd_same), shaped_row _, shaped_row _, _, rfl, itN (nq_row _) ?_⟩
    have sV := sU'.trans (same_new (o := .lst [.int 3, .int 3, .int 3]) hl)
    generalize upd HU l (.lst [.int 3, .int 3, .int 3]) = HV at sV ⊢
    refine ⟨.ref v, rfl, (by show 2 ≤ sizeLine; decide), fun t2 ht2 => .inl ⟨v, t2, [1, 3, 5], (0, 2), rfl, (hvS.mono sV).mono (same_new ht2), okS, upd_same, by decide, fun HW sW => ?_⟩⟩
    rw [show fallP [1, 3, 5] (0, 2) = 8 by decide]
    refine ⟨rfl, _, rfl, itN (by decide) ?_⟩
    have sW' := (sV.trans (same_new (o := .tup [.int 0, .int 2]) ht2)).trans sW
    have hvW := hvS.mono sW'
    have sxW := sxS.trans (Same.sx sW')
    clear sU sU' sV sW sW' hO ht ht2 hl hvS sxS nS sxB hv
    -- some[1] = 9
    refine ⟨.ref v, rfl, v, _, 1, 1, rfl, rfl, hvW, rfl, ?_⟩
    have sxS := sxW.new (o := .lst ((([1, 3, 5] : Rw).map V.int).set 1 (.int 9))) n4v
    have hvS : Lst (upd HW v (.lst ((([1, 3, 5] : Rw).map V.int).set 1 (.int 9)))) v [1, 9, 5] := upd_same
    generalize upd HW v (.lst ((([1, 3, 5] : Rw).map V.int).set 1 (.int 9))) = HS at hvS sxS ⊢
    refine ⟨.ref v, rfl, (by show 2 ≤ sizeLine; decide), fun t ht => .inl ⟨v, t, [1, 9, 5], (0, 1), rfl, hvS.mono (same_new ht), okT, upd_same, by decide, fun HU o sU ho hO => ?_⟩⟩
    rw [show behP [1, 9, 5] (0, 1) = [5, 5, 5] by decide] at hO
    have sU' := (same_new (o := .tup [.int 0, .int 1]) ht).trans sU
    refine ⟨(by show 3 ≤ sizeLine; decide), fun l hl => ?_⟩
    refine ⟨rowD [5, 5, 5], rowD [5, 5, 5], dp_row' (hO.mono (same_new hl)), dp_row (SqL.of upd_same), shaped_row _, shaped_row _, _, rfl, itN (nq_row _) ?_⟩
    have sV := sU'.trans (same_new (o := .lst [.int 5, .int 5, .int 5]) hl)
    generalize upd HU l (.lst [.int 5, .int 5, .int 5]) = HV at sV ⊢
    refine ⟨.ref v, rfl, (by show 2 ≤ sizeLine; decide), fun t2 ht2 => .inl ⟨v, t2, [1, 9, 5], (0, 1), rfl, (hvS.mono sV).mono (same_new ht2), okT, upd_same, by decide, fun HW2 sW => ?_⟩⟩
    rw [show fallP [1, 9, 5] (0, 1) = 32 by decide]
    refine ⟨rfl, _, rfl, itN (by decide) ?_⟩
    have sW' := (sV.trans (same_new (o := .tup [.int 0, .int 1]) ht2)).trans sW
    have hvW2 := hvS.mono sW'
    have sxW2 := sxS.trans (Same.sx sW')
    clear sU sU' sV sW sW' hO ht ht2 hl hvS sxS sxW hvW
    refine ⟨.ref v, rfl, .inl ⟨v, _, rfl, hvW2, okT, fun HX p2 ws sX hp2 hws pr => ?_⟩⟩
    rw [show evs [1, 9, 5] = [(0, 1), (0, 2), (1, 2)] by decide] at pr
    refine ⟨(by show 2 ≤ sizeLine; decide), fun a1 h1 => ⟨(by show 2 ≤ sizeLine; decide), fun a2 h2 => ⟨(by show 2 ≤ sizeLine; decide), fun a3 h3 => ⟨(by show 3 ≤ sizeLine; decide), fun l4 h4 => ?_⟩⟩⟩⟩
    have c1 := same_new (o := .tup [.int 0, .int 1]) h1
    have c2 := same_new (o := .tup [.int 0, .int 2]) h2
    have c3 := same_new (o := .tup [.int 1, .int 2]) h3
    have c4 := same_new (o := .lst [.ref a1, .ref a2, .ref a3]) h4
    have sx := ((c1.trans c2).trans c3).trans c4
    refine ⟨prsD [(0, 1), (0, 2), (1, 2)], prsD [(0, 1), (0, 2), (1, 2)], dp_prs (SqL.of (sx _ _ hws)) (pr.mono (Same.tups sx)), dp_prs (SqL.of upd_same) (.cons ⟨a1, rfl, c4 _ _ (c3 _ _ (c2 _ _ upd_same))⟩ (.cons ⟨a2, rfl, c4 _ _ (c3 _ _ upd_same)⟩ (.cons ⟨a3, rfl, c4 _ _ upd_same⟩ .nil))), shaped_prs _, shaped_prs _, ?_⟩
    rw [eqv_prs, decide_eq_true rfl]
    exact fin _ (sxW2.trans (Same.sx (sX.trans sx)))
end
end EG

/-! law_k06: the law's own body. -/
namespace EG
open PySem PySem.Spec PyProof.Rows L2
theorem pe_cal0 {X : Cx} {x : Str} {j k : Nat} {sp : Sp} {p pos : Pos} (c : Cal CX0 X.prog X.w X.K X.mg X.base x [] j sp) (hr : Room k X.A) (hg : Gl X x) (hj : j ≤ k := by decide) (hdb : (x == ("__debug__" : Str)) = false := by decide) : PE X (.Call (.Name x p) [] [] pos) (tCall sp [] E0 tNil) := by
  obtain ⟨f, fd, F, gf, kf, bf⟩ := c
  exact pe_call0 F (hr.mono hj) hg gf kf bf .nil pass0 hdb
section
variable {P : Program} {w : World} {K : PySem.W.Frag} {mg : Str → Option Value} {base : Heap}
def sp_law (K : PySem.W.Frag) (T : List (Addr × Str)) : Sp := fun vs H Q _ => ∃ (a : Addr) (ns : List Int), vs = [.ref a] ∧ SqL K H a (ns.map V.int) ∧ ns.length ≤ 63 ∧ (∀ z ∈ ns, bits z ≤ 1048576) ∧ LamX.Tabs T H ∧ ∀ H', Q (.bl true) H'
abbrev N_law : List Str := ["_law_script", "_law_value_here", "_law_row", "_law_at", "_law_even", "_law_odd", "_law_place"]
theorem ok_law {f : Addr} {fd : FuncData} {T : List (Addr × Str)} (F : Fun K "law" "law" s_law f fd) (B : Blt mg)
    (c_l_value : Cal CX0 P w K mg base "_law_value" ["_law_cell", "_law_turn"] 2 sp_value) (c_l_cell_at : Cal CX0 P w K mg base "_law_cell_at" ["_law_script", "_law_k"] 1 (sp_cell_at K))
    (c_l_great_right : Cal CX0 P w K mg base "_law_great_right" ["_law_row", "_law_more"] 94 sp_great) (c_l_fields_right : Cal CX0 P w K mg base "_law_fields_right" [] 6 (sp_fields T)) (c_l_wholes_right : Cal CX0 P w K mg base "_law_wholes_right" ["_law_row"] 94 sp_wholes)
    (c_l_twelve_right : Cal CX0 P w K mg base "_law_twelve_right" ["_law_even", "_law_odd", "_law_marks", "_law_place"] 7 (sp_twelve T)) (c_l_spoiled_right : Cal CX0 P w K mg base "_law_spoiled_right" ["_law_place", "_law_at"] 96 (sp_spoiled T)) :
    FnOk P w K mg base CX0 97 f fd ["_law_script"] (sp_law K T) := by
  refine F.ok sc_law (fun vs H Q E h => ?_) (fun cdv A outer s H vs Q E hr h => ?_)
  · obtain ⟨a, ns, rfl, _⟩ := h
    rfl
  · obtain ⟨a, ns, rfl, hS, hl, hb, tabs, q⟩ := h
    refine ⟨_, (pss_cons (ps_set (i := 0) sc_law.nd rfl (.inl rfl) (pe_slice (r := rSlL K) sl_list (pv 0) po_none (po_some pe_int)))
    (pss_cons (ps_set (i := 1) sc_law.nd rfl (.inl rfl) (pe_cal c_l_value hr (by rfl) (pa_cons (pe_cal c_l_cell_at hr (by rfl) (pa_cons (pv 0) (pa_cons pe_int pa_nil))) (pa_cons pe_int pa_nil))))
    (pss_cons (ps_set (i := 2) sc_law.nd rfl (.inl rfl) (pe_lst pa_nil))
    (pss_cons (ps_for PassesOwn.never rfl (pi_range1 (by rfl) B.range (pa_cons (pe_op op_add pe_int (pe_op op_mod (pv 1) pe_int)) pa_nil)) (pg_name (i := 3) sc_law.nd rfl (.inl rfl))
    (pss_one (ps_expr (pe_bm PySem.F.plainAttrs_list PySem.F.slot_list_append PySem.F.type_list_append mt_append (pv 2) (pa_cons (pe_op op_mod (pe_op op_fdiv (pe_cal c_l_value hr (by rfl) (pa_cons (pe_cal c_l_cell_at hr (by rfl) (pa_cons (pv 0) (pa_cons (pe_op op_mod (pv 3) pe_int) pa_nil))) (pa_cons (pe_op op_add (pv 3) pe_int) pa_nil))) pe_int) pe_int) pa_nil)))))
    (pss_cons (ps_if (PW.pt (pw_or (pt_not (pt_val (pe_cal c_l_great_right hr (by rfl) (pa_cons (pv 2) (pa_cons (pe_op op_mod (pe_op op_fdiv (pv 1) pe_int) pe_int) pa_nil))))) (pw_or (pt_not (pt_val (pe_cal0 c_l_fields_right hr (by rfl)))) (pw_or1 (pt_not (pt_val (pe_cal c_l_wholes_right hr (by rfl) (pa_cons (pv 2) pa_nil))))))))
    (pss_one (ps_ret pe_bl))
    pss_nil)
    (pss_cons (ps_if (PW.pt (pw_or (pt_not (pt_val (pe_cal c_l_wholes_right hr (by rfl) (pa_cons (pe_lst (pa_cons pe_int (pa_cons pe_int (pa_cons pe_int (pa_cons pe_int pa_nil))))) pa_nil)))) (pw_or1 (pt_not (pt_val (pe_cal c_l_wholes_right hr (by rfl) (pa_cons (pe_lst (pa_cons pe_int (pa_cons pe_int pa_nil))) pa_nil)))))))
    (pss_one (ps_ret pe_bl))
    pss_nil)
    (pss_cons (ps_par (i := 4) (j := 5) rfl sc_law.nd rfl rfl (by decide) rfl rfl (pa_cons (pe_op op_mul (pe_op op_mod (pe_op op_fdiv (pv 1) pe_int) pe_int) pe_int) (pa_cons (pe_op op_add (pe_op op_mul (pe_op op_mod (pe_op op_fdiv (pv 1) pe_int) pe_int) pe_int) pe_int) pa_nil)) (by rfl))
    (pss_cons (ps_if (pt_not (pt_val (pe_cal c_l_twelve_right hr (by rfl) (pa_cons (pv 4) (pa_cons (pv 5) (pa_cons (pe_op op_mod (pe_op op_fdiv (pv 1) pe_int) pe_int) (pa_cons (pe_op op_mod (pe_op op_fdiv (pv 1) pe_int) pe_int) pa_nil)))))))
    (pss_one (ps_ret pe_bl))
    pss_nil)
    (pss_cons (ps_for PassesOwn.never rfl (pi_tup (pe_tup (pa_cons (pe_op op_mod (pe_op op_fdiv (pv 1) pe_int) pe_int) (pa_cons pe_int pa_nil)))) (pg_name (i := 6) sc_law.nd rfl (.inl rfl))
    (pss_one (ps_if (pt_not (pt_val (pe_cal c_l_spoiled_right hr (by rfl) (pa_cons (pv 6) (pa_cons (pe_op op_fdiv (pv 1) pe_int) pa_nil)))))
      (pss_one (ps_ret pe_bl))
      pss_nil)))
    (pss_one (ps_ret pe_bl))))))))))), ?_⟩
    obtain ⟨cs, ecs, hcs, lcs⟩ := cut63 ns
    refine ⟨.ref a, rfl, 63, rfl, a, _, rfl, hS, fun sc hsc => ?_⟩
    rw [ecs]
    have s0 : Same H (upd H sc (.lst (cs.map V.int))) := same_new hsc
    have hSc : Lst (upd H sc (.lst (cs.map V.int))) sc cs := upd_same
    have bcs : ∀ z ∈ cs, bits z ≤ 1048576 := fun z hz => hb z (hcs z hz)
    have bc0 : ∀ c : Int, (c = 0 ∨ c ∈ cs) → bits c ≤ 1048576 := fun c hc => by
      rcases hc with rfl | hc
      · decide
      · exact bcs c hc
    have tabs0 := tabs.ext s0
    generalize upd H sc (.lst (cs.map V.int)) = H0 at hSc tabs0 ⊢
    clear s0 tabs hS hsc
    refine ⟨.ref sc, rfl, sc, cs, 0, rfl, hSc.sq, by decide, fun c hc => ⟨c, 3, rfl, by have := bc0 c hc; omega, by decide, by decide, fun H1 v s1 => ?_⟩⟩
    have hSc1 := hSc.mono s1
    have tabs1 := tabs0.ext s1
    -- the row
    refine ⟨Nat.zero_le _, fun r hr0 => ?_⟩
    have s2 : Same H1 (upd H1 r (.lst [])) := same_new hr0
    have h2 : (upd H1 r (.lst [])) r = some (.lst (([] : List Int).map V.int)) := upd_same
    generalize upd H1 r (.lst []) = H2 at s2 h2 ⊢
    have v4 : 0 ≤ v % 4 ∧ v % 4 < 4 := ⟨by omega, by omega⟩
    refine ⟨.int v, rfl, _, _, rfl, rfl, (by show (0 : Int) < 4; decide), _, _, rfl, rfl, _, rfl, by omega, by omega, for_range
      (fun j σ H' => ∃ (y3 : Option V) (ns : List Int), σ = [some (.ref sc), some (.int v), some (.ref r), y3, none, none, none] ∧ Same H1 H' ∧ H' r = some (.lst (ns.map V.int)) ∧ ns.length = j ∧ ∀ x ∈ ns, 0 ≤ x ∧ x ≤ 6)
      ⟨_, [], rfl, s2, h2, rfl, fun _ h => nomatch h⟩ (fun j σ H3 hj h => ?_) (fun σ H3 h => ?_)⟩
    · obtain ⟨y3, ms, rfl, s3, h3, lm, em⟩ := h
      have hj4 : j < 4 := by omega
      have hSc3 := hSc1.mono s3
      refine ⟨.ref r, rfl, .inl ⟨rfl, _, SqL.of h3⟩, .ref sc, rfl, .int (0 + (j : Int)), rfl, _, _, rfl, rfl, (by show (0 : Int) < 3; decide), sc, cs, _, rfl, hSc3.sq, by omega, fun c2 hc2 => ⟨.int (0 + (j : Int)), rfl, _, _, rfl, rfl, c2, _, rfl, by have := bc0 c2 hc2; omega, by omega, by omega, fun H4 z s4 => ?_⟩⟩
      refine ⟨_, _, rfl, rfl, ⟨by decide, by decide⟩, _, _, rfl, rfl, (by show (0 : Int) < 7; decide), r, _, _, rfl, rfl, s4 _ _ h3, small1000 (by rw [List.length_map]; omega), ?_⟩
      refine ⟨_, ms ++ [z / 3 % 7], rfl, same_upd2 (s3.trans s4) hr0, by rw [upd_same, List.map_append]; rfl, by rw [List.length_append, lm]; rfl, fun x hx => ?_⟩
      rcases List.mem_append.mp hx with hx | hx
      · exact em x hx
      · rw [List.mem_singleton.mp hx]
        omega
    obtain ⟨y3, ms, rfl, s3, h3, lm, em⟩ := h
    have lm4 : 1 ≤ ms.length ∧ ms.length ≤ 4 := by omega
    have ok4 : RowOk ms 4 6 := ⟨lm4.1, by omega, em⟩
    have hR3 : Lst H3 r ms := h3
    have tabs3 := tabs1.ext s3
    -- great, fields, wholes
    refine ⟨.ref r, rfl, .int v, rfl, _, _, rfl, rfl, ⟨by decide, by decide⟩, _, _, rfl, rfl, (by show (0 : Int) < 3; decide), r, _, ms, rfl, hR3, ok4, by omega, by omega, fun H4 s4 => ⟨true, rfl, iteF ?_⟩⟩
    refine ⟨rfl, tabs3.ext s4, fun H5 e5 t5 => ⟨true, rfl, iteF ?_⟩⟩
    have hR5 : Lst H5 r ms := e5 _ _ (hR3.mono s4) (fun _ z => nomatch z)
    refine ⟨.ref r, rfl, r, ms, rfl, hR5, ok4, fun H6 s6 => ⟨true, rfl, iteF ?_⟩⟩
    have t6 := t5.ext s6
    clear hR5 t5 s6 e5 s4 hR3 tabs3 s3 h3 s2 h2 tabs1 hSc1 s1 tabs0 hSc lm lm4
    -- two rows of known numbers
    refine ⟨(by show 4 ≤ sizeLine; decide), fun l1 hl1 => ⟨l1, [0, 2, 4, 2], rfl, upd_same, by unfold RowOk; decide, fun H7 s7 => ⟨true, rfl, iteF ?_⟩⟩⟩
    have t7 := (t6.ext (same_new hl1)).ext s7
    refine ⟨(by show 2 ≤ sizeLine; decide), fun l2 hl2 => ⟨l2, [1, 5], rfl, upd_same, by unfold RowOk; decide, fun H8 s8 => ⟨true, rfl, iteF ?_⟩⟩⟩
    have t8 := (t7.ext (same_new hl2)).ext s8
    clear t6 t7 s7 s8 hl1 hl2
    -- even, odd
    refine ⟨.int v, rfl, _, _, rfl, rfl, ⟨by decide, by decide⟩, _, _, rfl, rfl, (by show (0 : Int) < 499990; decide), _, _, rfl, rfl, .inl ⟨by omega, by omega⟩, ?_⟩
    refine ⟨.int v, rfl, _, _, rfl, rfl, ⟨by decide, by decide⟩, _, _, rfl, rfl, (by show (0 : Int) < 499990; decide), _, _, rfl, rfl, .inl ⟨by omega, by omega⟩, _, _, rfl, rfl, _, _, rfl, ?_⟩
    obtain ⟨pl, epl, pl12⟩ : ∃ pl : Nat, v / 11 % 12 = (pl : Int) ∧ pl < 12 := ⟨(v / 11 % 12).toNat, by omega, by omega⟩
    obtain ⟨p2, ep2, p212⟩ : ∃ p2 : Nat, v / 13 % 12 = (p2 : Int) ∧ p2 < 12 := ⟨(v / 13 % 12).toNat, by omega, by omega⟩
    refine ⟨.int (v / 12 % 499990 * 2), rfl, .int (v / 7 % 499990 * 2 + 1), rfl, .int v, rfl, _, _, rfl, rfl, ⟨by decide, by decide⟩, _, _, rfl, rfl, (by show (0 : Int) < 4096; decide), .int v, rfl, _, _, rfl, rfl, ⟨by decide, by decide⟩, _, _, rfl, rfl, (by show (0 : Int) < 12; decide), ?_⟩
    refine ⟨_, _, _, pl, by rw [← epl]; rfl, by omega, by omega, by omega, by omega, by omega, by omega, pl12, t8, fun H9 e9 t9 => ⟨true, rfl, iteF ?_⟩⟩
    -- spoiled
    refine ⟨.int v, rfl, _, _, rfl, rfl, ⟨by decide, by decide⟩, _, _, rfl, rfl, (by show (0 : Int) < 12; decide), (by show 2 ≤ sizeLine; decide), fun t ht => ?_⟩
    have sA := same_new (o := .tup [.int (v / 13 % 12), .int 11]) ht
    have htA : (upd H9 t (.tup [.int (v / 13 % 12), .int 11])) t = some (.tup [.int (v / 13 % 12), .int 11]) := upd_same
    generalize upd H9 t (.tup [.int (v / 13 % 12), .int 11]) = HA at sA htA ⊢
    refine ⟨t, rfl, ⟨_, SqT.of htA⟩, for_tup (K := K) (a := t) (xs := [.int (v / 13 % 12), .int 11])
      (fun _ σ H' => ∃ y6, σ = [some (.ref sc), some (.int v), some (.ref r), y3, some (.int (v / 12 % 499990 * 2)), some (.int (v / 7 % 499990 * 2 + 1)), y6] ∧ LamX.ExtN HA H' ∧ LamX.Tabs T H')
      ⟨_, rfl, LamX.ExtN.refl _, t9.ext sA⟩ (fun i σ H' _ h => ?_) (fun i x σ HB hx h => ?_) (fun σ HB h => ?_)⟩
    · obtain ⟨_, _, e, _⟩ := h
      exact SqT.of (e _ _ htA (fun _ z => nomatch z))
    · obtain ⟨y6, rfl, eB, tB⟩ := h
      obtain ⟨n, rfl, n12⟩ : ∃ n : Nat, x = .int (n : Int) ∧ n < 12 := by
        have hx' := List.mem_of_getElem? hx
        simp only [List.mem_cons, List.not_mem_nil, or_false] at hx'
        rcases hx' with rfl | rfl
        · exact ⟨p2, by rw [ep2], p212⟩
        · exact ⟨11, rfl, by decide⟩
      refine ⟨.int (n : Int), rfl, .int v, rfl, _, _, rfl, rfl, ⟨by decide, by decide⟩, n, _, rfl, n12, tB, fun HC eC tC => ⟨true, rfl, iteF ⟨_, rfl, eB.trans eC, tC⟩⟩⟩
    · obtain ⟨y6, rfl, _, _⟩ := h
      exact q HB
end
end EG

/-! What the top has written, and the law. -/
namespace EG
open PySem L2
theorem all_mk {l : PySem.W.OpenLaw} {w : World} {K : PySem.W.Frag} {h : Heap} {mg : Str → Option Value} {fa : Addr} (X : K.In h) (G : h.Ns mainGlobals mg) (hfa : mg "law" = some (.ref fa))
    {f0 f1 f2 f3 f4 f5 f6 f7 f8 f9 f10 f11 f12 f13 f14 f15 f16 f17 f18 f19 f20 f21 f22 f23 f24 f25 f26 f27 : Addr} {od0 an0 od1 an1 od2 an2 od3 an3 od4 an4 od5 an5 od6 an6 od7 an7 od8 an8 od9 an9 od10 an10 od11 an11 od12 an12 od13 an13 od14 an14 od15 an15 od16 an16 od17 an17 od18 an18 od19 an19 od20 an20 od21 an21 od22 an22 od23 an23 od24 an24 od25 an25 od26 an26 od27 an27 : Option Addr} {sl0 sl1 sl2 sl3 sl4 sl5 sl6 sl7 sl8 sl9 sl10 sl11 sl12 sl13 sl14 sl15 sl16 sl17 sl18 sl19 sl20 sl21 sl22 sl23 sl24 sl25 sl26 sl27 : Array (Option Value)}
    {oc0 kV0 dc0 pm0 cd0 ct0 oc1 kV1 dc1 pm1 cd1 ct1 oc2 kV2 dc2 pm2 cd2 ct2 oc3 kV3 dc3 pm3 cd3 ct3 oc4 kV4 dc4 pm4 cd4 ct4 oc5 kV5 dc5 pm5 cd5 ct5 oc6 kV6 dc6 pm6 cd6 ct6 oc7 kV7 dc7 pm7 cd7 ct7 oc8 kV8 dc8 pm8 cd8 ct8 oc9 kV9 dc9 pm9 cd9 ct9 oc10 kV10 dc10 pm10 cd10 ct10 oc11 kV11 dc11 pm11 cd11 ct11 oc12 kV12 dc12 pm12 cd12 ct12 oc13 kV13 dc13 pm13 cd13 ct13 oc14 kV14 dc14 pm14 cd14 ct14 oc15 kV15 dc15 pm15 cd15 ct15 oc16 kV16 dc16 pm16 cd16 ct16 oc17 kV17 dc17 pm17 cd17 ct17 oc18 kV18 dc18 pm18 cd18 ct18 oc19 kV19 dc19 pm19 cd19 ct19 oc20 kV20 dc20 pm20 cd20 ct20 oc21 kV21 dc21 pm21 cd21 ct21 oc22 kV22 dc22 pm22 cd22 ct22 oc23 kV23 dc23 pm23 cd23 ct23 oc24 kV24 dc24 pm24 cd24 ct24 oc25 kV25 dc25 pm25 cd25 ct25 oc26 kV26 dc26 pm26 cd26 ct26 oc27 kV27 dc27 pm27 cd27 ct27 : Value} {t_MOST t_GREATEST t_FEW t_SMALL : Tok}
    (a0 : PySem.W.nsIn K mainGlobals "is_whole" = some (some (.ref f0))) (l0 : K.lookup f0 = some ⟨oc0, od0, .func (PySem.W.fnOf "is_whole" "is_whole" (defArgs s_is_whole) (defBody s_is_whole) (defScope s_is_whole) .none kV0 dc0 pm0 an0 cd0 ct0), sl0⟩)
    (c0 : PySem.W.codeIn K cd0 "is_whole" = true) (k0 : PySem.W.keepIn K (.ref f0) = true)
    (a1 : PySem.W.nsIn K mainGlobals "check_row" = some (some (.ref f1))) (l1 : K.lookup f1 = some ⟨oc1, od1, .func (PySem.W.fnOf "check_row" "check_row" (defArgs s_check_row) (defBody s_check_row) (defScope s_check_row) .none kV1 dc1 pm1 an1 cd1 ct1), sl1⟩)
    (c1 : PySem.W.codeIn K cd1 "check_row" = true) (k1 : PySem.W.keepIn K (.ref f1) = true)
    (a2 : PySem.W.nsIn K mainGlobals "evenings_of" = some (some (.ref f2))) (l2 : K.lookup f2 = some ⟨oc2, od2, .func (PySem.W.fnOf "evenings_of" "evenings_of" (defArgs s_evenings_of) (defBody s_evenings_of) (defScope s_evenings_of) .none kV2 dc2 pm2 an2 cd2 ct2), sl2⟩)
    (c2 : PySem.W.codeIn K cd2 "evenings_of" = true) (k2 : PySem.W.keepIn K (.ref f2) = true)
    (a3 : PySem.W.nsIn K mainGlobals "behind" = some (some (.ref f3))) (l3 : K.lookup f3 = some ⟨oc3, od3, .func (PySem.W.fnOf "behind" "behind" (defArgs s_behind) (defBody s_behind) (defScope s_behind) .none kV3 dc3 pm3 an3 cd3 ct3), sl3⟩)
    (c3 : PySem.W.codeIn K cd3 "behind" = true) (k3 : PySem.W.keepIn K (.ref f3) = true)
    (a4 : PySem.W.nsIn K mainGlobals "evenings" = some (some (.ref f4))) (l4 : K.lookup f4 = some ⟨oc4, od4, .func (PySem.W.fnOf "evenings" "evenings" (defArgs s_evenings) (defBody s_evenings) (defScope s_evenings) .none kV4 dc4 pm4 an4 cd4 ct4), sl4⟩)
    (c4 : PySem.W.codeIn K cd4 "evenings" = true) (k4 : PySem.W.keepIn K (.ref f4) = true)
    (a5 : PySem.W.nsIn K mainGlobals "settled" = some (some (.ref f5))) (l5 : K.lookup f5 = some ⟨oc5, od5, .func (PySem.W.fnOf "settled" "settled" (defArgs s_settled) (defBody s_settled) (defScope s_settled) .none kV5 dc5 pm5 an5 cd5 ct5), sl5⟩)
    (c5 : PySem.W.codeIn K cd5 "settled" = true) (k5 : PySem.W.keepIn K (.ref f5) = true)
    (a6 : PySem.W.nsIn K mainGlobals "check_evening" = some (some (.ref f6))) (l6 : K.lookup f6 = some ⟨oc6, od6, .func (PySem.W.fnOf "check_evening" "check_evening" (defArgs s_check_evening) (defBody s_check_evening) (defScope s_check_evening) .none kV6 dc6 pm6 an6 cd6 ct6), sl6⟩)
    (c6 : PySem.W.codeIn K cd6 "check_evening" = true) (k6 : PySem.W.keepIn K (.ref f6) = true)
    (a7 : PySem.W.nsIn K mainGlobals "evened" = some (some (.ref f7))) (l7 : K.lookup f7 = some ⟨oc7, od7, .func (PySem.W.fnOf "evened" "evened" (defArgs s_evened) (defBody s_evened) (defScope s_evened) .none kV7 dc7 pm7 an7 cd7 ct7), sl7⟩)
    (c7 : PySem.W.codeIn K cd7 "evened" = true) (k7 : PySem.W.keepIn K (.ref f7) = true)
    (a8 : PySem.W.nsIn K mainGlobals "fall" = some (some (.ref f8))) (l8 : K.lookup f8 = some ⟨oc8, od8, .func (PySem.W.fnOf "fall" "fall" (defArgs s_fall) (defBody s_fall) (defScope s_fall) .none kV8 dc8 pm8 an8 cd8 ct8), sl8⟩)
    (c8 : PySem.W.codeIn K cd8 "fall" = true) (k8 : PySem.W.keepIn K (.ref f8) = true)
    (a9 : PySem.W.nsIn K mainGlobals "row_behind" = some (some (.ref f9))) (l9 : K.lookup f9 = some ⟨oc9, od9, .func (PySem.W.fnOf "row_behind" "row_behind" (defArgs s_row_behind) (defBody s_row_behind) (defScope s_row_behind) .none kV9 dc9 pm9 an9 cd9 ct9), sl9⟩)
    (c9 : PySem.W.codeIn K cd9 "row_behind" = true) (k9 : PySem.W.keepIn K (.ref f9) = true)
    (a10 : PySem.W.nsIn K mainGlobals "are_alike" = some (some (.ref f10))) (l10 : K.lookup f10 = some ⟨oc10, od10, .func (PySem.W.fnOf "are_alike" "are_alike" (defArgs s_are_alike) (defBody s_are_alike) (defScope s_are_alike) .none kV10 dc10 pm10 an10 cd10 ct10), sl10⟩)
    (c10 : PySem.W.codeIn K cd10 "are_alike" = true) (k10 : PySem.W.keepIn K (.ref f10) = true)
    (a11 : PySem.W.nsIn K mainGlobals "way_to_alike" = some (some (.ref f11))) (l11 : K.lookup f11 = some ⟨oc11, od11, .func (PySem.W.fnOf "way_to_alike" "way_to_alike" (defArgs s_way_to_alike) (defBody s_way_to_alike) (defScope s_way_to_alike) .none kV11 dc11 pm11 an11 cd11 ct11), sl11⟩)
    (c11 : PySem.W.codeIn K cd11 "way_to_alike" = true) (k11 : PySem.W.keepIn K (.ref f11) = true)
    (a12 : PySem.W.nsIn K mainGlobals "alike" = some (some (.ref f12))) (l12 : K.lookup f12 = some ⟨oc12, od12, .func (PySem.W.fnOf "alike" "alike" (defArgs s_alike) (defBody s_alike) (defScope s_alike) .none kV12 dc12 pm12 an12 cd12 ct12), sl12⟩)
    (c12 : PySem.W.codeIn K cd12 "alike" = true) (k12 : PySem.W.keepIn K (.ref f12) = true)
    (a13 : PySem.W.nsIn K mainGlobals "bounds_of" = some (some (.ref f13))) (l13 : K.lookup f13 = some ⟨oc13, od13, .func (PySem.W.fnOf "bounds_of" "bounds_of" (defArgs s_bounds_of) (defBody s_bounds_of) (defScope s_bounds_of) .none kV13 dc13 pm13 an13 cd13 ct13), sl13⟩)
    (c13 : PySem.W.codeIn K cd13 "bounds_of" = true) (k13 : PySem.W.keepIn K (.ref f13) = true)
    (a14 : PySem.W.nsIn K mainGlobals "fewest_most" = some (some (.ref f14))) (l14 : K.lookup f14 = some ⟨oc14, od14, .func (PySem.W.fnOf "fewest_most" "fewest_most" (defArgs s_fewest_most) (defBody s_fewest_most) (defScope s_fewest_most) .none kV14 dc14 pm14 an14 cd14 ct14), sl14⟩)
    (c14 : PySem.W.codeIn K cd14 "fewest_most" = true) (k14 : PySem.W.keepIn K (.ref f14) = true)
    (a15 : PySem.W.nsIn K mainGlobals "ends" = some (some (.ref f15))) (l15 : K.lookup f15 = some ⟨oc15, od15, .func (PySem.W.fnOf "ends" "ends" (defArgs s_ends) (defBody s_ends) (defScope s_ends) .none kV15 dc15 pm15 an15 cd15 ct15), sl15⟩)
    (c15 : PySem.W.codeIn K cd15 "ends" = true) (k15 : PySem.W.keepIn K (.ref f15) = true)
    (a16 : PySem.W.nsIn K mainGlobals "_law_cell_at" = some (some (.ref f16))) (l16 : K.lookup f16 = some ⟨oc16, od16, .func (PySem.W.fnOf "_law_cell_at" "_law_cell_at" (defArgs s_l_cell_at) (defBody s_l_cell_at) (defScope s_l_cell_at) .none kV16 dc16 pm16 an16 cd16 ct16), sl16⟩)
    (c16 : PySem.W.codeIn K cd16 "_law_cell_at" = true) (k16 : PySem.W.keepIn K (.ref f16) = true)
    (a17 : PySem.W.nsIn K mainGlobals "_law_draw" = some (some (.ref f17))) (l17 : K.lookup f17 = some ⟨oc17, od17, .func (PySem.W.fnOf "_law_draw" "_law_draw" (defArgs s_l_draw) (defBody s_l_draw) (defScope s_l_draw) .none kV17 dc17 pm17 an17 cd17 ct17), sl17⟩)
    (c17 : PySem.W.codeIn K cd17 "_law_draw" = true) (k17 : PySem.W.keepIn K (.ref f17) = true)
    (a18 : PySem.W.nsIn K mainGlobals "_law_value" = some (some (.ref f18))) (l18 : K.lookup f18 = some ⟨oc18, od18, .func (PySem.W.fnOf "_law_value" "_law_value" (defArgs s_l_value) (defBody s_l_value) (defScope s_l_value) .none kV18 dc18 pm18 an18 cd18 ct18), sl18⟩)
    (c18 : PySem.W.codeIn K cd18 "_law_value" = true) (k18 : PySem.W.keepIn K (.ref f18) = true)
    (a19 : PySem.W.nsIn K mainGlobals "_law_kinds" = some (some (.ref f19))) (l19 : K.lookup f19 = some ⟨oc19, od19, .func (PySem.W.fnOf "_law_kinds" "_law_kinds" (defArgs s_l_kinds) (defBody s_l_kinds) (defScope s_l_kinds) .none kV19 dc19 pm19 an19 cd19 ct19), sl19⟩)
    (c19 : PySem.W.codeIn K cd19 "_law_kinds" = true) (k19 : PySem.W.keepIn K (.ref f19) = true)
    (a20 : PySem.W.nsIn K mainGlobals "_law_made_into" = some (some (.ref f20))) (l20 : K.lookup f20 = some ⟨oc20, od20, .func (PySem.W.fnOf "_law_made_into" "_law_made_into" (defArgs s_l_made_into) (defBody s_l_made_into) (defScope s_l_made_into) .none kV20 dc20 pm20 an20 cd20 ct20), sl20⟩)
    (c20 : PySem.W.codeIn K cd20 "_law_made_into" = true) (k20 : PySem.W.keepIn K (.ref f20) = true)
    (a21 : PySem.W.nsIn K mainGlobals "_law_whole" = some (some (.ref f21))) (l21 : K.lookup f21 = some ⟨oc21, od21, .func (PySem.W.fnOf "_law_whole" "_law_whole" (defArgs s_l_whole) (defBody s_l_whole) (defScope s_l_whole) .none kV21 dc21 pm21 an21 cd21 ct21), sl21⟩)
    (c21 : PySem.W.codeIn K cd21 "_law_whole" = true) (k21 : PySem.W.keepIn K (.ref f21) = true)
    (a22 : PySem.W.nsIn K mainGlobals "_law_great_right" = some (some (.ref f22))) (l22 : K.lookup f22 = some ⟨oc22, od22, .func (PySem.W.fnOf "_law_great_right" "_law_great_right" (defArgs s_l_great_right) (defBody s_l_great_right) (defScope s_l_great_right) .none kV22 dc22 pm22 an22 cd22 ct22), sl22⟩)
    (c22 : PySem.W.codeIn K cd22 "_law_great_right" = true) (k22 : PySem.W.keepIn K (.ref f22) = true)
    (a23 : PySem.W.nsIn K mainGlobals "_law_wholes_right" = some (some (.ref f23))) (l23 : K.lookup f23 = some ⟨oc23, od23, .func (PySem.W.fnOf "_law_wholes_right" "_law_wholes_right" (defArgs s_l_wholes_right) (defBody s_l_wholes_right) (defScope s_l_wholes_right) .none kV23 dc23 pm23 an23 cd23 ct23), sl23⟩)
    (c23 : PySem.W.codeIn K cd23 "_law_wholes_right" = true) (k23 : PySem.W.keepIn K (.ref f23) = true)
    (a24 : PySem.W.nsIn K mainGlobals "_law_twelve_right" = some (some (.ref f24))) (l24 : K.lookup f24 = some ⟨oc24, od24, .func (PySem.W.fnOf "_law_twelve_right" "_law_twelve_right" (defArgs s_l_twelve_right) (defBody s_l_twelve_right) (defScope s_l_twelve_right) .none kV24 dc24 pm24 an24 cd24 ct24), sl24⟩)
    (c24 : PySem.W.codeIn K cd24 "_law_twelve_right" = true) (k24 : PySem.W.keepIn K (.ref f24) = true)
    (a25 : PySem.W.nsIn K mainGlobals "_law_fields_right" = some (some (.ref f25))) (l25 : K.lookup f25 = some ⟨oc25, od25, .func (PySem.W.fnOf "_law_fields_right" "_law_fields_right" (defArgs s_l_fields_right) (defBody s_l_fields_right) (defScope s_l_fields_right) .none kV25 dc25 pm25 an25 cd25 ct25), sl25⟩)
    (c25 : PySem.W.codeIn K cd25 "_law_fields_right" = true) (k25 : PySem.W.keepIn K (.ref f25) = true)
    (a26 : PySem.W.nsIn K mainGlobals "_law_spoiled_right" = some (some (.ref f26))) (l26 : K.lookup f26 = some ⟨oc26, od26, .func (PySem.W.fnOf "_law_spoiled_right" "_law_spoiled_right" (defArgs s_l_spoiled_right) (defBody s_l_spoiled_right) (defScope s_l_spoiled_right) .none kV26 dc26 pm26 an26 cd26 ct26), sl26⟩)
    (c26 : PySem.W.codeIn K cd26 "_law_spoiled_right" = true) (k26 : PySem.W.keepIn K (.ref f26) = true)
    (a27 : PySem.W.nsIn K mainGlobals "law" = some (some (.ref f27))) (l27 : K.lookup f27 = some ⟨oc27, od27, .func (PySem.W.fnOf "law" "law" (defArgs s_law) (defBody s_law) (defScope s_law) .none kV27 dc27 pm27 an27 cd27 ct27), sl27⟩)
    (c27 : PySem.W.codeIn K cd27 "law" = true) (k27 : PySem.W.keepIn K (.ref f27) = true)
    (m_MOST : PySem.W.nsIn K mainGlobals "MOST" = some (some (.int 12 t_MOST)))
    (m_GREATEST : PySem.W.nsIn K mainGlobals "GREATEST" = some (some (.int 1000000 t_GREATEST)))
    (m_FEW : PySem.W.nsIn K mainGlobals "FEW" = some (some (.int 5 t_FEW)))
    (m_SMALL : PySem.W.nsIn K mainGlobals "SMALL" = some (some (.int 20 t_SMALL)))
    {C_Answer C_Alike C_Never C_GlassError C_BadRow C_BadEvening fm0 fm1 fm2 : Addr} {odm0 anm0 odm1 anm1 odm2 anm2 : Option Addr} {slm0 slm1 slm2 : Array (Option Value)} {ocm0 kVm0 dcm0 pmm0 cdm0 ctm0 ocm1 kVm1 dcm1 pmm1 cdm1 ctm1 ocm2 kVm2 dcm2 pmm2 cdm2 ctm2 : Value}
    (aC_Answer : PySem.W.nsIn K mainGlobals "Answer" = some (some (.ref C_Answer)))
    (aC_Alike : PySem.W.nsIn K mainGlobals "Alike" = some (some (.ref C_Alike)))
    (pg_Alike : PySem.W.plainGet K C_Alike Str.empty = true)
    (hd_Alike : PySem.W.hasDictIn K C_Alike = true)
    (po_Alike : PySem.W.plainOver K C_Alike = true)
    (sa_Alike : PySem.W.findIn K (.ref C_Alike) "__setattr__" = some (some (.builtin "object.__setattr__")))
    (mk_Alike : PySem.W.makesIn K C_Alike = true)
    (kc_Alike : PySem.W.keepIn K (.ref C_Alike) = true)
    (ha_Alike : PySem.W.findIn K (.ref C_Alike) "__class__" = some (some (.builtin "object.__class__")))
    (hm_Alike : PySem.W.mroIn K C_Alike (.type "object") = some true)
    (aC_Never : PySem.W.nsIn K mainGlobals "Never" = some (some (.ref C_Never)))
    (pg_Never : PySem.W.plainGet K C_Never Str.empty = true)
    (hd_Never : PySem.W.hasDictIn K C_Never = true)
    (po_Never : PySem.W.plainOver K C_Never = true)
    (sa_Never : PySem.W.findIn K (.ref C_Never) "__setattr__" = some (some (.builtin "object.__setattr__")))
    (mk_Never : PySem.W.makesIn K C_Never = true)
    (kc_Never : PySem.W.keepIn K (.ref C_Never) = true)
    (ha_Never : PySem.W.findIn K (.ref C_Never) "__class__" = some (some (.builtin "object.__class__")))
    (hm_Never : PySem.W.mroIn K C_Never (.type "object") = some true)
    (aC_GlassError : PySem.W.nsIn K mainGlobals "GlassError" = some (some (.ref C_GlassError)))
    (aC_BadRow : PySem.W.nsIn K mainGlobals "BadRow" = some (some (.ref C_BadRow)))
    (aC_BadEvening : PySem.W.nsIn K mainGlobals "BadEvening" = some (some (.ref C_BadEvening)))
    (hn0 : PySem.W.specialIn K (.builtin "object.__class__") "__get__" = some (some (.builtin "getset_descriptor.__get__"))) (ht0 : PySem.W.takesIn K (.builtin "object.__class__") = some true)
    (am0 : PySem.W.findIn K (.ref C_Alike) "__init__" = some (some (.ref fm0))) (im0 : PySem.W.isFn K (.ref fm0) = true) (lm0 : K.lookup fm0 = some ⟨ocm0, odm0, .func (PySem.W.fnOf "__init__" "Alike.__init__" (defArgs s_Alike_init) (defBody s_Alike_init) (defScope s_Alike_init) .none kVm0 dcm0 pmm0 anm0 cdm0 ctm0), slm0⟩)
    (cm0 : PySem.W.codeIn K cdm0 "Alike.__init__" = true) (km0 : PySem.W.keepIn K (.ref fm0) = true)
    (am1 : PySem.W.findIn K (.ref C_Alike) "shows" = some (some (.ref fm1))) (im1 : PySem.W.isFn K (.ref fm1) = true) (lm1 : K.lookup fm1 = some ⟨ocm1, odm1, .func (PySem.W.fnOf "shows" "Alike.shows" (defArgs s_Alike_shows) (defBody s_Alike_shows) (defScope s_Alike_shows) .none kVm1 dcm1 pmm1 anm1 cdm1 ctm1), slm1⟩)
    (cm1 : PySem.W.codeIn K cdm1 "Alike.shows" = true) (km1 : PySem.W.keepIn K (.ref fm1) = true)
    (am2 : PySem.W.findIn K (.ref C_Never) "shows" = some (some (.ref fm2))) (im2 : PySem.W.isFn K (.ref fm2) = true) (lm2 : K.lookup fm2 = some ⟨ocm2, odm2, .func (PySem.W.fnOf "shows" "Never.shows" (defArgs s_Never_shows) (defBody s_Never_shows) (defScope s_Never_shows) .none kVm2 dcm2 pmm2 anm2 cdm2 ctm2), slm2⟩)
    (cm2 : PySem.W.codeIn K cdm2 "Never.shows" = true) (km2 : PySem.W.keepIn K (.ref fm2) = true)
    {cT0 pT0 cT1 pT1 cT2 pT2 : Addr} {ocT0 ocT1 ocT2 : Value} {odT0 odT1 odT2 : Option Addr} {vsT0 vsT1 vsT2 : Array Value} {slT0 slT1 slT2 : Array (Option Value)}
    (eT0 : cd24 = .ref cT0) (lT0 : K.lookup cT0 = some ⟨ocT0, odT0, .fields vsT0, slT0⟩) (gT0 : vsT0.getD 11 .none = .ref pT0) (hT0 : PySem.W.codeHdIn K cT0 pT0 = true) (nT0 : K.lookup pT0 = none) (zT0 : h.get? pT0 = some (PySem.W.tabObj #[]))
    (eT1 : cd25 = .ref cT1) (lT1 : K.lookup cT1 = some ⟨ocT1, odT1, .fields vsT1, slT1⟩) (gT1 : vsT1.getD 11 .none = .ref pT1) (hT1 : PySem.W.codeHdIn K cT1 pT1 = true) (nT1 : K.lookup pT1 = none) (zT1 : h.get? pT1 = some (PySem.W.tabObj #[]))
    (eT2 : cd26 = .ref cT2) (lT2 : K.lookup cT2 = some ⟨ocT2, odT2, .fields vsT2, slT2⟩) (gT2 : vsT2.getD 11 .none = .ref pT2) (hT2 : PySem.W.codeHdIn K cT2 pT2 = true) (nT2 : K.lookup pT2 = none) (zT2 : h.get? pT2 = some (PySem.W.tabObj #[]))
    (dT1_0 : pT1 ≠ pT0)
    (dT2_0 : pT2 ≠ pT0)
    (dT0_1 : pT0 ≠ pT1)
    (dT2_1 : pT2 ≠ pT1)
    (dT0_2 : pT0 ≠ pT2)
    (dT1_2 : pT1 ≠ pT2)
    (nE : PySem.W.findIn K (.ref C_Alike) "evenings" = some none)
    (i_Never : PySem.W.findIn K (.ref C_Never) "__init__" = some (some (.builtin "object.__init__")))
    (ic_Alike : PySem.W.isClsIn K C_Alike = true)
    (it_Alike : PySem.W.typeIn K (.ref C_Alike) = some (.type "type"))
    (is_Alike : PySem.W.subIn K (.ref C_Alike) (.ref C_Alike) = some true)
    (ic_Never : PySem.W.isClsIn K C_Never = true)
    (it_Never : PySem.W.typeIn K (.ref C_Never) = some (.type "type"))
    (is_Never : PySem.W.subIn K (.ref C_Never) (.ref C_Never) = some true)
    (ic_Answer : PySem.W.isClsIn K C_Answer = true)
    (it_Answer : PySem.W.typeIn K (.ref C_Answer) = some (.type "type"))
    (is_Answer : PySem.W.subIn K (.ref C_Answer) (.ref C_Answer) = some true)
    (sb2 : PySem.W.subIn K (.ref C_Alike) (.ref C_Never) = some false)
    (sb3 : PySem.W.subIn K (.ref C_Alike) (.ref C_Answer) = some true)
    (sb4 : PySem.W.subIn K (.ref C_Never) (.ref C_Alike) = some false)
    (sb6 : PySem.W.subIn K (.ref C_Never) (.ref C_Answer) = some true)
    (xB : PySem.W.excIn K C_BadRow [.type "ValueError", .type "Exception", .type "BaseException", .type "object"] "ValueError.__new__" = true)
    (kB : PySem.W.keepIn K (.ref C_BadRow) = true)
    (bB : PySem.W.subIn K (.ref C_BadRow) (.type "BaseException") = some true)
    (tB : PySem.W.typeIn K (.ref C_BadRow) = some (.type "type"))
    (agB : PySem.W.findIn K (.ref C_BadRow) "__getattribute__" = some (some (.builtin "BaseException.__getattribute__")))
    (akB : PySem.W.findIn K (.ref C_BadRow) "__getattr__" = some none)
    (adB : PySem.W.hasDictIn K C_BadRow = true)
    (aaB : PySem.W.findIn K (.ref C_BadRow) "__class__" = some (some (.builtin "object.__class__")))
    (amB : PySem.W.mroIn K C_BadRow (.type "object") = some true)
    (sGB : PySem.W.subIn K (.ref C_BadRow) (.ref C_GlassError) = some true)
    (sVB : PySem.W.subIn K (.ref C_BadRow) (.type "ValueError") = some true)
    (icB : PySem.W.isClsIn K C_BadRow = true)
    (sBB : PySem.W.subIn K (.ref C_BadRow) (.ref C_BadRow) = some true)
    (sBE : PySem.W.subIn K (.ref C_BadRow) (.ref C_BadEvening) = some false)
    (xE : PySem.W.excIn K C_BadEvening [.type "ValueError", .type "Exception", .type "BaseException", .type "object"] "ValueError.__new__" = true)
    (kE : PySem.W.keepIn K (.ref C_BadEvening) = true)
    (bE : PySem.W.subIn K (.ref C_BadEvening) (.type "BaseException") = some true)
    (tE : PySem.W.typeIn K (.ref C_BadEvening) = some (.type "type"))
    (agE : PySem.W.findIn K (.ref C_BadEvening) "__getattribute__" = some (some (.builtin "BaseException.__getattribute__")))
    (akE : PySem.W.findIn K (.ref C_BadEvening) "__getattr__" = some none)
    (adE : PySem.W.hasDictIn K C_BadEvening = true)
    (aaE : PySem.W.findIn K (.ref C_BadEvening) "__class__" = some (some (.builtin "object.__class__")))
    (amE : PySem.W.mroIn K C_BadEvening (.type "object") = some true)
    (sGE : PySem.W.subIn K (.ref C_BadEvening) (.ref C_GlassError) = some true)
    (sVE : PySem.W.subIn K (.ref C_BadEvening) (.type "ValueError") = some true)
    (icE : PySem.W.isClsIn K C_BadEvening = true)
    (sEB : PySem.W.subIn K (.ref C_BadEvening) (.ref C_BadRow) = some false)
    (sEE : PySem.W.subIn K (.ref C_BadEvening) (.ref C_BadEvening) = some true)
    (xn : PySem.W.specialIn K (.builtin "object.__class__") "__get__" = some (some (.builtin "getset_descriptor.__get__")))
    (xt : PySem.W.takesIn K (.builtin "object.__class__") = some true)
    (bG : PySem.W.subIn K (.ref C_GlassError) (.type "BaseException") = some true)
    (dG : PySem.W.hasDictIn K C_GlassError = true)
    (tG : PySem.W.typeIn K (.ref C_GlassError) = some (.type "type"))
    (zV : PySem.W.nsIn K mainGlobals "ValueError" = some none)
    (z0 : PySem.W.nsIn K mainGlobals "isinstance" = some none) (z1 : PySem.W.nsIn K mainGlobals "int" = some none) (z2 : PySem.W.nsIn K mainGlobals "bool" = some none) (z3 : PySem.W.nsIn K mainGlobals "list" = some none) (z4 : PySem.W.nsIn K mainGlobals "len" = some none) (z5 : PySem.W.nsIn K mainGlobals "all" = some none) (z6 : PySem.W.nsIn K mainGlobals "range" = some none) (z7 : PySem.W.nsIn K mainGlobals "enumerate" = some none) (z8 : PySem.W.nsIn K mainGlobals "tuple" = some none) (z9 : PySem.W.nsIn K mainGlobals "min" = some none) (z10 : PySem.W.nsIn K mainGlobals "max" = some none) (z11 : PySem.W.nsIn K mainGlobals "sorted" = some none) (z12 : PySem.W.nsIn K mainGlobals "sum" = some none) (z13 : PySem.W.nsIn K mainGlobals "set" = some none) (z14 : PySem.W.nsIn K mainGlobals "any" = some none) :
    LamX.LawAtS l w K CX0 97 63 "_law_script" mg fa h := by
  have e := hfa.symm.trans (PySem.W.mg_of X G a27)
  cases e
  have F_is_whole := fun_mk (st := s_is_whole) l0 c0 k0
  have F_check_row := fun_mk (st := s_check_row) l1 c1 k1
  have F_evenings_of := fun_mk (st := s_evenings_of) l2 c2 k2
  have F_behind := fun_mk (st := s_behind) l3 c3 k3
  have F_evenings := fun_mk (st := s_evenings) l4 c4 k4
  have F_settled := fun_mk (st := s_settled) l5 c5 k5
  have F_check_evening := fun_mk (st := s_check_evening) l6 c6 k6
  have F_evened := fun_mk (st := s_evened) l7 c7 k7
  have F_fall := fun_mk (st := s_fall) l8 c8 k8
  have F_row_behind := fun_mk (st := s_row_behind) l9 c9 k9
  have F_are_alike := fun_mk (st := s_are_alike) l10 c10 k10
  have F_way_to_alike := fun_mk (st := s_way_to_alike) l11 c11 k11
  have F_alike := fun_mk (st := s_alike) l12 c12 k12
  have F_bounds_of := fun_mk (st := s_bounds_of) l13 c13 k13
  have F_fewest_most := fun_mk (st := s_fewest_most) l14 c14 k14
  have F_ends := fun_mk (st := s_ends) l15 c15 k15
  have F_l_cell_at := fun_mk (st := s_l_cell_at) l16 c16 k16
  have F_l_draw := fun_mk (st := s_l_draw) l17 c17 k17
  have F_l_value := fun_mk (st := s_l_value) l18 c18 k18
  have F_l_kinds := fun_mk (st := s_l_kinds) l19 c19 k19
  have F_l_made_into := fun_mk (st := s_l_made_into) l20 c20 k20
  have F_l_whole := fun_mk (st := s_l_whole) l21 c21 k21
  have F_l_great_right := fun_mk (st := s_l_great_right) l22 c22 k22
  have F_l_wholes_right := fun_mk (st := s_l_wholes_right) l23 c23 k23
  have F_l_twelve_right := fun_mk (st := s_l_twelve_right) l24 c24 k24
  have F_l_fields_right := fun_mk (st := s_l_fields_right) l25 c25 k25
  have F_l_spoiled_right := fun_mk (st := s_l_spoiled_right) l26 c26 k26
  have F_law := fun_mk (st := s_law) l27 c27 k27
  have b_is_whole := F_is_whole.binds (ps := ["thing"]) fun _ _ _ _ _ _ us hl => match us, hl with | [_], _ => rfl
  have b_check_row := F_check_row.binds (ps := ["row", "most", "greatest"]) fun _ _ _ _ _ _ us hl => match us, hl with | [_, _, _], _ => rfl
  have b_evenings_of := F_evenings_of.binds (ps := ["row"]) fun _ _ _ _ _ _ us hl => match us, hl with | [_], _ => rfl
  have b_behind := F_behind.binds (ps := ["row", "evening"]) fun _ _ _ _ _ _ us hl => match us, hl with | [_, _], _ => rfl
  have b_evenings := F_evenings.binds (ps := ["row"]) fun _ _ _ _ _ _ us hl => match us, hl with | [_], _ => rfl
  have b_settled := F_settled.binds (ps := ["row"]) fun _ _ _ _ _ _ us hl => match us, hl with | [_], _ => rfl
  have b_check_evening := F_check_evening.binds (ps := ["row", "evening"]) fun _ _ _ _ _ _ us hl => match us, hl with | [_, _], _ => rfl
  have b_evened := F_evened.binds (ps := ["row", "evening"]) fun _ _ _ _ _ _ us hl => match us, hl with | [_, _], _ => rfl
  have b_fall := F_fall.binds (ps := ["row", "evening"]) fun _ _ _ _ _ _ us hl => match us, hl with | [_, _], _ => rfl
  have b_row_behind := F_row_behind.binds (ps := ["row", "some"]) fun _ _ _ _ _ _ us hl => match us, hl with | [_, _], _ => rfl
  have b_are_alike := F_are_alike.binds (ps := ["row"]) fun _ _ _ _ _ _ us hl => match us, hl with | [_], _ => rfl
  have b_way_to_alike := F_way_to_alike.binds (ps := ["row"]) fun _ _ _ _ _ _ us hl => match us, hl with | [_], _ => rfl
  have b_alike := F_alike.binds (ps := ["row"]) fun _ _ _ _ _ _ us hl => match us, hl with | [_], _ => rfl
  have b_bounds_of := F_bounds_of.binds (ps := ["row", "known"]) fun _ _ _ _ _ _ us hl => match us, hl with | [_, _], _ => rfl
  have b_fewest_most := F_fewest_most.binds (ps := ["row"]) fun _ _ _ _ _ _ us hl => match us, hl with | [_], _ => rfl
  have b_ends := F_ends.binds (ps := ["row"]) fun _ _ _ _ _ _ us hl => match us, hl with | [_], _ => rfl
  have b_l_cell_at := F_l_cell_at.binds (ps := ["_law_script", "_law_k"]) fun _ _ _ _ _ _ us hl => match us, hl with | [_, _], _ => rfl
  have b_l_draw := F_l_draw.binds (ps := ["_law_cell", "_law_k", "_law_many"]) fun _ _ _ _ _ _ us hl => match us, hl with | [_, _, _], _ => rfl
  have b_l_value := F_l_value.binds (ps := ["_law_cell", "_law_turn"]) fun _ _ _ _ _ _ us hl => match us, hl with | [_, _], _ => rfl
  have b_l_kinds := F_l_kinds.binds (ps := ["_law_ask"]) fun _ _ _ _ _ _ us hl => match us, hl with | [_], _ => rfl
  have b_l_made_into := F_l_made_into.binds (ps := ["_law_fields", "_law_due", "_law_shows"]) fun _ _ _ _ _ _ us hl => match us, hl with | [_, _, _], _ => rfl
  have b_l_whole := F_l_whole.binds (ps := ["_law_number"]) fun _ _ _ _ _ _ us hl => match us, hl with | [_], _ => rfl
  have b_l_great_right := F_l_great_right.binds (ps := ["_law_row", "_law_more"]) fun _ _ _ _ _ _ us hl => match us, hl with | [_, _], _ => rfl
  have b_l_wholes_right := F_l_wholes_right.binds (ps := ["_law_row"]) fun _ _ _ _ _ _ us hl => match us, hl with | [_], _ => rfl
  have b_l_twelve_right := F_l_twelve_right.binds (ps := ["_law_even", "_law_odd", "_law_marks", "_law_place"]) fun _ _ _ _ _ _ us hl => match us, hl with | [_, _, _, _], _ => rfl
  have b_l_fields_right := F_l_fields_right.binds (ps := []) fun _ _ _ _ _ _ us hl => match us, hl with | [], _ => rfl
  have b_l_spoiled_right := F_l_spoiled_right.binds (ps := ["_law_place", "_law_at"]) fun _ _ _ _ _ _ us hl => match us, hl with | [_, _], _ => rfl
  have g_MOST := PySem.W.mg_of X G m_MOST
  have g_GREATEST := PySem.W.mg_of X G m_GREATEST
  have g_FEW := PySem.W.mg_of X G m_FEW
  have g_SMALL := PySem.W.mg_of X G m_SMALL
  have g_Answer := PySem.W.mg_of X G aC_Answer
  have g_Alike := PySem.W.mg_of X G aC_Alike
  have cl_Alike : ClF K C_Alike := ⟨⟨pg_Alike, hd_Alike, po_Alike, sa_Alike⟩, mk_Alike, kc_Alike, ha_Alike, hn0, ht0, hm_Alike⟩
  have g_Never := PySem.W.mg_of X G aC_Never
  have cl_Never : ClF K C_Never := ⟨⟨pg_Never, hd_Never, po_Never, sa_Never⟩, mk_Never, kc_Never, ha_Never, hn0, ht0, hm_Never⟩
  have g_GlassError := PySem.W.mg_of X G aC_GlassError
  have g_BadRow := PySem.W.mg_of X G aC_BadRow
  have g_BadEvening := PySem.W.mg_of X G aC_BadEvening
  have F_Alike_init := fun_mk (st := s_Alike_init) lm0 cm0 km0
  have b_Alike_init := F_Alike_init.binds (ps := ["self", "evenings"]) fun _ _ _ _ _ _ us hl => match us, hl with | [_, _], _ => rfl
  have F_Alike_shows := fun_mk (st := s_Alike_shows) lm1 cm1 km1
  have b_Alike_shows := F_Alike_shows.binds (ps := ["self", "row"]) fun _ _ _ _ _ _ us hl => match us, hl with | [_, _], _ => rfl
  have F_Never_shows := fun_mk (st := s_Never_shows) lm2 cm2 km2
  have b_Never_shows := F_Never_shows.binds (ps := ["self", "row"]) fun _ _ _ _ _ _ us hl => match us, hl with | [_, _], _ => rfl
  have B : Blt mg := ⟨PySem.W.mg_none_of X G z0, PySem.W.mg_none_of X G z1, PySem.W.mg_none_of X G z2, PySem.W.mg_none_of X G z3, PySem.W.mg_none_of X G z4, PySem.W.mg_none_of X G z5, PySem.W.mg_none_of X G z6, PySem.W.mg_none_of X G z7, PySem.W.mg_none_of X G z8, PySem.W.mg_none_of X G z9, PySem.W.mg_none_of X G z10, PySem.W.mg_none_of X G z11, PySem.W.mg_none_of X G z12, PySem.W.mg_none_of X G z13, PySem.W.mg_none_of X G z14⟩
  have mT0 : (pT0, lamQ "_law_twelve_right") ∈ ([(pT0, lamQ "_law_twelve_right"), (pT1, lamQ "_law_fields_right"), (pT2, lamQ "_law_spoiled_right")] : List (Addr × Str)) := List.mem_cons_self
  have uT0 : ∀ p ∈ ([(pT0, lamQ "_law_twelve_right"), (pT1, lamQ "_law_fields_right"), (pT2, lamQ "_law_spoiled_right")] : List (Addr × Str)), p.1 = pT0 → p.2 = lamQ "_law_twelve_right" := (List.forall_mem_cons.mpr ⟨(fun _ => rfl), (List.forall_mem_cons.mpr ⟨(fun z => absurd z dT1_0), (List.forall_mem_cons.mpr ⟨(fun z => absurd z dT2_0), (fun _ hz => nomatch hz)⟩)⟩)⟩)
  have mT1 : (pT1, lamQ "_law_fields_right") ∈ ([(pT0, lamQ "_law_twelve_right"), (pT1, lamQ "_law_fields_right"), (pT2, lamQ "_law_spoiled_right")] : List (Addr × Str)) := (List.mem_cons_of_mem _ List.mem_cons_self)
  have uT1 : ∀ p ∈ ([(pT0, lamQ "_law_twelve_right"), (pT1, lamQ "_law_fields_right"), (pT2, lamQ "_law_spoiled_right")] : List (Addr × Str)), p.1 = pT1 → p.2 = lamQ "_law_fields_right" := (List.forall_mem_cons.mpr ⟨(fun z => absurd z dT0_1), (List.forall_mem_cons.mpr ⟨(fun _ => rfl), (List.forall_mem_cons.mpr ⟨(fun z => absurd z dT2_1), (fun _ hz => nomatch hz)⟩)⟩)⟩)
  have mT2 : (pT2, lamQ "_law_spoiled_right") ∈ ([(pT0, lamQ "_law_twelve_right"), (pT1, lamQ "_law_fields_right"), (pT2, lamQ "_law_spoiled_right")] : List (Addr × Str)) := (List.mem_cons_of_mem _ (List.mem_cons_of_mem _ List.mem_cons_self))
  have uT2 : ∀ p ∈ ([(pT0, lamQ "_law_twelve_right"), (pT1, lamQ "_law_fields_right"), (pT2, lamQ "_law_spoiled_right")] : List (Addr × Str)), p.1 = pT2 → p.2 = lamQ "_law_spoiled_right" := (List.forall_mem_cons.mpr ⟨(fun z => absurd z dT0_2), (List.forall_mem_cons.mpr ⟨(fun z => absurd z dT1_2), (List.forall_mem_cons.mpr ⟨(fun _ => rfl), (fun _ hz => nomatch hz)⟩)⟩)⟩)
  refine ⟨PySem.W.fnOf "law" "law" (defArgs s_law) (defBody s_law) (defScope s_law) .none kV27 dc27 pm27 an27 cd27 ct27, [(cT0, pT0), (cT1, pT1), (cT2, pT2)], sp_law K [(pT0, lamQ "_law_twelve_right"), (pT1, lamQ "_law_fields_right"), (pT2, lamQ "_law_spoiled_right")], (List.forall_mem_cons.mpr ⟨zT0, (List.forall_mem_cons.mpr ⟨zT1, (List.forall_mem_cons.mpr ⟨zT2, (fun _ hz => nomatch hz)⟩)⟩)⟩), (List.forall_mem_cons.mpr ⟨nT0, (List.forall_mem_cons.mpr ⟨nT1, (List.forall_mem_cons.mpr ⟨nT2, (fun _ hz => nomatch hz)⟩)⟩)⟩), (List.forall_mem_cons.mpr ⟨(PySem.W.codeHd_of_K X hT0), (List.forall_mem_cons.mpr ⟨(PySem.W.codeHd_of_K X hT1), (List.forall_mem_cons.mpr ⟨(PySem.W.codeHd_of_K X hT2), (fun _ hz => nomatch hz)⟩)⟩)⟩), fun s v => .of_eq rfl, fun H a ns h1 h2 h3 h4 => ⟨a, ns, rfl, h4, h1, h2, (List.forall_mem_cons.mpr ⟨(LamX.TabS.nil (h3 _ List.mem_cons_self)), (List.forall_mem_cons.mpr ⟨(LamX.TabS.nil (h3 _ (List.mem_cons_of_mem _ List.mem_cons_self))), (List.forall_mem_cons.mpr ⟨(LamX.TabS.nil (h3 _ (List.mem_cons_of_mem _ (List.mem_cons_of_mem _ List.mem_cons_self)))), (fun _ hz => nomatch hz)⟩)⟩)⟩), fun _ => rfl⟩, fun base _ _ hTB => ?_⟩
  have bT0 : LamX.TabB base mg cT0 pT0 := hTB _ List.mem_cons_self
  have bT1 : LamX.TabB base mg cT1 pT1 := hTB _ (List.mem_cons_of_mem _ List.mem_cons_self)
  have bT2 : LamX.TabB base mg cT2 pT2 := hTB _ (List.mem_cons_of_mem _ (List.mem_cons_of_mem _ List.mem_cons_self))
  have XB : XcF K C_BadRow := ⟨xB, kB, bB, tB⟩
  have XE : XcF K C_BadEvening := ⟨xE, kE, bE, tE⟩
  have KD : KdF K C_BadRow C_BadEvening C_GlassError := ⟨⟨agB, akB, bB, adB, aaB, xn, xt, amB⟩, ⟨agE, akE, bE, adE, aaE, xn, xt, amE⟩, PySem.W.exm_ref bG dG tG sGB, PySem.W.exm_ref bG dG tG sGE, kit_mk icB tB sBB sBB, kit_mk icE tE sBE sEE, kit_mk icB tB sEB sBB, kit_mk icE tE sEE sEE, kit_bi (by decide) sVB, kit_bi (by decide) sVE⟩
  have IS : IsiF K C_Alike C_Never C_Answer := ⟨kit_mk ic_Alike it_Alike is_Alike is_Alike, kit_mk ic_Never it_Never sb2 is_Never, kit_mk ic_Answer it_Answer sb3 is_Answer, kit_mk ic_Alike it_Alike sb4 is_Alike, kit_mk ic_Never it_Never is_Never is_Never, kit_mk ic_Answer it_Answer sb6 is_Answer⟩
  have ZV := PySem.W.mg_none_of X G zV
  have c_is_whole : Cal CX0 l.prog w K mg base "is_whole" ["thing"] 1 (sp_is_whole K) := ⟨_, _, ok_is_whole F_is_whole B, PySem.W.mg_of X G a0, F_is_whole.kp, b_is_whole⟩
  have c_check_row : Cal (L2.CX l.prog w) l.prog w K mg base "check_row" ["row", "most", "greatest"] 2 (sp_check_rowX K C_BadRow) := ⟨_, _, ok_check_rowX F_check_row B g_BadRow XB c_is_whole, PySem.W.mg_of X G a1, F_check_row.kp, b_check_row⟩
  have c_evenings_of : Cal CX0 l.prog w K mg base "evenings_of" ["row"] 1 (sp_evenings_of K) := ⟨_, _, ok_evenings_of F_evenings_of B, PySem.W.mg_of X G a2, F_evenings_of.kp, b_evenings_of⟩
  have c_behind : Cal CX0 l.prog w K mg base "behind" ["row", "evening"] 1 (sp_behind K) := ⟨_, _, ok_behind F_behind B, PySem.W.mg_of X G a3, F_behind.kp, b_behind⟩
  have c_evenings : Cal (L2.CX l.prog w) l.prog w K mg base "evenings" ["row"] 3 (sp_evenings6 K C_BadRow) := ⟨_, _, ok_evenings6 F_evenings c_check_row c_evenings_of g_MOST g_GREATEST, PySem.W.mg_of X G a4, F_evenings.kp, b_evenings⟩
  have c_settled : Cal (L2.CX l.prog w) l.prog w K mg base "settled" ["row"] 3 (sp_settledX K C_BadRow) := ⟨_, _, ok_settledX F_settled c_check_row c_evenings_of g_MOST g_GREATEST, PySem.W.mg_of X G a5, F_settled.kp, b_settled⟩
  have c_check_evening : Cal (L2.CX l.prog w) l.prog w K mg base "check_evening" ["row", "evening"] 3 (sp_check_eveningX K C_BadRow C_BadEvening) := ⟨_, _, ok_check_eveningX F_check_evening B g_BadEvening XE c_is_whole c_check_row c_evenings_of g_MOST g_GREATEST, PySem.W.mg_of X G a6, F_check_evening.kp, b_check_evening⟩
  have c_evened : Cal (L2.CX l.prog w) l.prog w K mg base "evened" ["row", "evening"] 4 (sp_evenedX K C_BadRow C_BadEvening) := ⟨_, _, ok_evenedX F_evened c_check_evening c_behind, PySem.W.mg_of X G a7, F_evened.kp, b_evened⟩
  have c_fall : Cal (L2.CX l.prog w) l.prog w K mg base "fall" ["row", "evening"] 4 (sp_fallX K C_BadRow C_BadEvening) := ⟨_, _, ok_fallX F_fall c_check_evening, PySem.W.mg_of X G a8, F_fall.kp, b_fall⟩
  have c_row_behind : Cal CX0 l.prog w K mg base "row_behind" ["row", "some"] 2 (sp_row_behind K) := ⟨_, _, ok_row_behind F_row_behind c_evenings_of c_behind, PySem.W.mg_of X G a9, F_row_behind.kp, b_row_behind⟩
  have c_are_alike : Cal CX0 l.prog w K mg base "are_alike" ["row"] 1 (sp_are_alike K) := ⟨_, _, ok_are_alike F_are_alike B, PySem.W.mg_of X G a10, F_are_alike.kp, b_are_alike⟩
  have c_way_to_alike : Cal CX0 l.prog w K mg base "way_to_alike" ["row"] 2 (sp_way) := ⟨_, _, ok_way F_way_to_alike B c_evenings_of c_behind c_are_alike, PySem.W.mg_of X G a11, F_way_to_alike.kp, b_way_to_alike⟩
  have c_Alike_init : CalI CX0 l.prog w K mg base C_Alike ["self", "evenings"] 1 (sp_al_init C_Alike) := ⟨_, _, ok_al_init F_Alike_init B cl_Alike nE, ⟨mk_Alike, am0, im0, kc_Alike⟩, b_Alike_init⟩
  have c_Alike_shows : CalM CX0 l.prog w K mg base C_Alike "shows" ["self", "row"] 3 (sp_al_shows K C_Alike) := ⟨_, _, ok_al_shows F_Alike_shows cl_Alike nE c_row_behind c_are_alike, ⟨am1, im1, km1⟩, b_Alike_shows⟩
  have c_Never_shows : CalM CX0 l.prog w K mg base C_Never "shows" ["self", "row"] 3 (sp_nv_shows C_Never) := ⟨_, _, ok_nv_shows F_Never_shows c_way_to_alike, ⟨am2, im2, km2⟩, b_Never_shows⟩
  have c_alike : Cal (L2.CX l.prog w) l.prog w K mg base "alike" ["row"] 3 (sp_alike6 K C_BadRow C_Alike C_Never) := ⟨_, _, ok_alike6 F_alike g_FEW g_SMALL g_Alike g_Never cl_Never i_Never c_Alike_init c_check_row c_way_to_alike, PySem.W.mg_of X G a12, F_alike.kp, b_alike⟩
  have c_bounds_of : Cal CX0 l.prog w K mg base "bounds_of" ["row", "known"] 92 (sp_bounds 91) := ⟨_, _, ok_bounds F_bounds_of B c_evenings_of c_behind (PySem.W.mg_of X G a13) F_bounds_of.kp b_bounds_of 91, PySem.W.mg_of X G a13, F_bounds_of.kp, b_bounds_of⟩
  have c_fewest_most : Cal (L2.CX l.prog w) l.prog w K mg base "fewest_most" ["row"] 93 (sp_few6 K C_BadRow) := ⟨_, _, ok_few6 F_fewest_most g_FEW g_SMALL c_check_row c_bounds_of, PySem.W.mg_of X G a14, F_fewest_most.kp, b_fewest_most⟩
  have c_ends : Cal (L2.CX l.prog w) l.prog w K mg base "ends" ["row"] 3 (sp_endsX K C_BadRow) := ⟨_, _, ok_endsX F_ends B g_FEW g_SMALL c_check_row c_evenings_of c_behind, PySem.W.mg_of X G a15, F_ends.kp, b_ends⟩
  have c_l_cell_at : Cal CX0 l.prog w K mg base "_law_cell_at" ["_law_script", "_law_k"] 1 (sp_cell_at K) := ⟨_, _, ok_cell_at F_l_cell_at B, PySem.W.mg_of X G a16, F_l_cell_at.kp, b_l_cell_at⟩
  have c_l_draw : Cal CX0 l.prog w K mg base "_law_draw" ["_law_cell", "_law_k", "_law_many"] 1 (sp_draw) := ⟨_, _, ok_draw F_l_draw, PySem.W.mg_of X G a17, F_l_draw.kp, b_l_draw⟩
  have c_l_value : Cal CX0 l.prog w K mg base "_law_value" ["_law_cell", "_law_turn"] 2 (sp_value) := ⟨_, _, ok_value F_l_value c_l_draw, PySem.W.mg_of X G a18, F_l_value.kp, b_l_value⟩
  have c_l_whole : Cal CX0 l.prog w K mg base "_law_whole" ["_law_number"] 1 (sp_l_whole K) := ⟨_, _, ok_l_whole F_l_whole B, PySem.W.mg_of X G a21, F_l_whole.kp, b_l_whole⟩
  have c_l_great_right : Cal CX0 l.prog w K mg base "_law_great_right" ["_law_row", "_law_more"] 94 (sp_great) := ⟨_, _, ok_great F_l_great_right B g_Alike g_Never cl_Alike cl_Never IS nE c_fewest_most c_ends c_alike c_Alike_shows c_Never_shows, PySem.W.mg_of X G a22, F_l_great_right.kp, b_l_great_right⟩
  have c_l_wholes_right : Cal CX0 l.prog w K mg base "_law_wholes_right" ["_law_row"] 94 (sp_wholes) := ⟨_, _, ok_wholes F_l_wholes_right B g_Alike cl_Alike cl_Never IS nE c_l_whole c_fewest_most c_ends c_alike c_evenings c_evened c_fall, PySem.W.mg_of X G a23, F_l_wholes_right.kp, b_l_wholes_right⟩
  have q_evenings := PySem.W.mg_of X G a4
  have q_settled := PySem.W.mg_of X G a5
  have q_alike := PySem.W.mg_of X G a12
  have q_ends := PySem.W.mg_of X G a15
  have q_fewest_most := PySem.W.mg_of X G a14
  have q_evened := PySem.W.mg_of X G a7
  have q_fall := PySem.W.mg_of X G a8
  have A1 : ∀ f sp, S6 K C_BadRow C_Alike C_Never f4 f5 f12 f15 f14 f sp → HeldX l.prog w K mg base 93 f sp := fun f sp h => by
    rcases h with ⟨rfl, rfl⟩ | ⟨rfl, rfl⟩ | ⟨rfl, rfl⟩ | ⟨rfl, rfl⟩ | ⟨rfl, rfl⟩
    · exact c_evenings.held q_evenings (by decide)
    · exact c_settled.held q_settled (by decide)
    · exact c_alike.held q_alike (by decide)
    · exact c_ends.held q_ends (by decide)
    · exact c_fewest_most.held q_fewest_most (by decide)
  have A2 : ∀ f sp, S2 K C_BadRow C_BadEvening f7 f8 f sp → HeldX l.prog w K mg base 4 f sp := fun f sp h => by
    rcases h with ⟨rfl, rfl⟩ | ⟨rfl, rfl⟩
    · exact c_evened.held q_evened (by decide)
    · exact c_fall.held q_fall (by decide)
  have c_l_twelve_right : Cal CX0 l.prog w K mg base "_law_twelve_right" ["_law_even", "_law_odd", "_law_marks", "_law_place"] 7 (sp_twelve [(pT0, lamQ "_law_twelve_right"), (pT1, lamQ "_law_fields_right"), (pT2, lamQ "_law_spoiled_right")]) := ⟨_, _, ok_twelve F_l_twelve_right eT0 B bT0 mT0 uT0 g_BadRow g_BadEvening g_GlassError ZV KD F_l_kinds (PySem.W.mg_of X G a19) b_l_kinds q_evened q_fall A2 c_evenings c_settled c_evened c_fall, PySem.W.mg_of X G a24, F_l_twelve_right.kp, b_l_twelve_right⟩
  have c_l_fields_right : Cal CX0 l.prog w K mg base "_law_fields_right" [] 6 (sp_fields [(pT0, lamQ "_law_twelve_right"), (pT1, lamQ "_law_fields_right"), (pT2, lamQ "_law_spoiled_right")]) := ⟨_, _, ok_fields F_l_fields_right eT1 B bT1 mT1 uT1 g_Alike g_Never cl_Alike cl_Never IS nE i_Never F_l_made_into (PySem.W.mg_of X G a20) b_l_made_into c_Alike_init c_Alike_shows c_Never_shows c_alike c_evenings c_evened c_fall, PySem.W.mg_of X G a25, F_l_fields_right.kp, b_l_fields_right⟩
  have c_l_spoiled_right : Cal CX0 l.prog w K mg base "_law_spoiled_right" ["_law_place", "_law_at"] 96 (sp_spoiled [(pT0, lamQ "_law_twelve_right"), (pT1, lamQ "_law_fields_right"), (pT2, lamQ "_law_spoiled_right")]) := ⟨_, _, ok_spoiled F_l_spoiled_right eT2 B bT2 mT2 uT2 g_BadRow g_BadEvening g_GlassError ZV KD F_l_kinds (PySem.W.mg_of X G a19) b_l_kinds q_evenings q_settled q_evened q_fall q_alike q_ends q_fewest_most A1 A2 c_evenings c_evened, PySem.W.mg_of X G a26, F_l_spoiled_right.kp, b_l_spoiled_right⟩
  exact ok_law F_law B c_l_value c_l_cell_at c_l_great_right c_l_fields_right c_l_wholes_right c_l_twelve_right c_l_spoiled_right
end EG
open PySem PySem.W PyProof.Rows
set_option maxHeartbeats 0 in
theorem PySem.Challenge.cw_evenglasses_k06_whole_hard_holds : PySem.Challenge.rw_evenglasses_k06_whole_hard.Holds := by
  w_on; o_law; k_head; (case hw => w_witness2)
  k_fill
  refine LamX.walk_ofTs (l := PySem.Challenge.rw_evenglasses_k06_whole_hard) (n := 63) (k := 97) (x := "_law_script") (CX := fun _ => L2.CX0) rfl (by decide) rfl ⟨rfl, by decide, by decide⟩ (fun w h Y => PySem.W.km_in_of Y) ?F (fun _ _ _ _ _ h => h)
  case F =>
    intro w mg fa h Y KX G hmg
    have hT8 := PySem.W.km_tabs_of Y
    refine' EG.all_mk KX G hmg ?a0 ?l0 ?c0 ?k0 ?a1 ?l1 ?c1 ?k1 ?a2 ?l2 ?c2 ?k2 ?a3 ?l3 ?c3 ?k3 ?a4 ?l4 ?c4 ?k4 ?a5 ?l5 ?c5 ?k5 ?a6 ?l6 ?c6 ?k6 ?a7 ?l7 ?c7 ?k7 ?a8 ?l8 ?c8 ?k8 ?a9 ?l9 ?c9 ?k9 ?a10 ?l10 ?c10 ?k10 ?a11 ?l11 ?c11 ?k11 ?a12 ?l12 ?c12 ?k12 ?a13 ?l13 ?c13 ?k13 ?a14 ?l14 ?c14 ?k14 ?a15 ?l15 ?c15 ?k15 ?a16 ?l16 ?c16 ?k16 ?a17 ?l17 ?c17 ?k17 ?a18 ?l18 ?c18 ?k18 ?a19 ?l19 ?c19 ?k19 ?a20 ?l20 ?c20 ?k20 ?a21 ?l21 ?c21 ?k21 ?a22 ?l22 ?c22 ?k22 ?a23 ?l23 ?c23 ?k23 ?a24 ?l24 ?c24 ?k24 ?a25 ?l25 ?c25 ?k25 ?a26 ?l26 ?c26 ?k26 ?a27 ?l27 ?c27 ?k27 ?m_MOST ?m_GREATEST ?m_FEW ?m_SMALL ?aC_Answer ?aC_Alike ?pg_Alike ?hd_Alike ?po_Alike ?sa_Alike ?mk_Alike ?kc_Alike ?ha_Alike ?hm_Alike ?aC_Never ?pg_Never ?hd_Never ?po_Never ?sa_Never ?mk_Never ?kc_Never ?ha_Never ?hm_Never ?aC_GlassError ?aC_BadRow ?aC_BadEvening ?hn0 ?ht0 ?am0 ?im0 ?lm0 ?cm0 ?km0 ?am1 ?im1 ?lm1 ?cm1 ?km1 ?am2 ?im2 ?lm2 ?cm2 ?km2 ?eT0 ?lT0 ?gT0 ?hT0 ?nT0 ?zT0 ?eT1 ?lT1 ?gT1 ?hT1 ?nT1 ?zT1 ?eT2 ?lT2 ?gT2 ?hT2 ?nT2 ?zT2 ?dT1_0 ?dT2_0 ?dT0_1 ?dT2_1 ?dT0_2 ?dT1_2 ?nE ?i_Never ?ic_Alike ?it_Alike ?is_Alike ?ic_Never ?it_Never ?is_Never ?ic_Answer ?it_Answer ?is_Answer ?sb2 ?sb3 ?sb4 ?sb6 ?xB ?kB ?bB ?tB ?agB ?akB ?adB ?aaB ?amB ?sGB ?sVB ?icB ?sBB ?sBE ?xE ?kE ?bE ?tE ?agE ?akE ?adE ?aaE ?amE ?sGE ?sVE ?icE ?sEB ?sEE ?xn ?xt ?bG ?dG ?tG ?zV ?z0 ?z1 ?z2 ?z3 ?z4 ?z5 ?z6 ?z7 ?z8 ?z9 ?z10 ?z11 ?z12 ?z13 ?z14
    (case a0 => k_is); (case l0 => k_is); (case c0 => k_is); (case k0 => k_is); (case a1 => k_is); (case l1 => k_is)
    (case c1 => k_is); (case k1 => k_is); (case a2 => k_is); (case l2 => k_is); (case c2 => k_is); (case k2 => k_is)
    (case a3 => k_is); (case l3 => k_is); (case c3 => k_is); (case k3 => k_is); (case a4 => k_is); (case l4 => k_is)
    (case c4 => k_is); (case k4 => k_is); (case a5 => k_is); (case l5 => k_is); (case c5 => k_is); (case k5 => k_is)
    (case a6 => k_is); (case l6 => k_is); (case c6 => k_is); (case k6 => k_is); (case a7 => k_is); (case l7 => k_is)
    (case c7 => k_is); (case k7 => k_is); (case a8 => k_is); (case l8 => k_is); (case c8 => k_is); (case k8 => k_is)
    (case a9 => k_is); (case l9 => k_is); (case c9 => k_is); (case k9 => k_is); (case a10 => k_is); (case l10 => k_is)
    (case c10 => k_is); (case k10 => k_is); (case a11 => k_is); (case l11 => k_is); (case c11 => k_is); (case k11 => k_is)
    (case a12 => k_is); (case l12 => k_is); (case c12 => k_is); (case k12 => k_is); (case a13 => k_is); (case l13 => k_is)
    (case c13 => k_is); (case k13 => k_is); (case a14 => k_is); (case l14 => k_is); (case c14 => k_is); (case k14 => k_is)
    (case a15 => k_is); (case l15 => k_is); (case c15 => k_is); (case k15 => k_is); (case a16 => k_is); (case l16 => k_is)
    (case c16 => k_is); (case k16 => k_is); (case a17 => k_is); (case l17 => k_is); (case c17 => k_is); (case k17 => k_is)
    (case a18 => k_is); (case l18 => k_is); (case c18 => k_is); (case k18 => k_is); (case a19 => k_is); (case l19 => k_is)
    (case c19 => k_is); (case k19 => k_is); (case a20 => k_is); (case l20 => k_is); (case c20 => k_is); (case k20 => k_is)
    (case a21 => k_is); (case l21 => k_is); (case c21 => k_is); (case k21 => k_is); (case a22 => k_is); (case l22 => k_is)
    (case c22 => k_is); (case k22 => k_is); (case a23 => k_is); (case l23 => k_is); (case c23 => k_is); (case k23 => k_is)
    (case a24 => k_is); (case l24 => k_is); (case c24 => k_is); (case k24 => k_is); (case a25 => k_is); (case l25 => k_is)
    (case c25 => k_is); (case k25 => k_is); (case a26 => k_is); (case l26 => k_is); (case c26 => k_is); (case k26 => k_is)
    (case a27 => k_is); (case l27 => k_is); (case c27 => k_is); (case k27 => k_is); (case m_MOST => k_is); (case m_GREATEST => k_is)
    (case m_FEW => k_is); (case m_SMALL => k_is); (case aC_Answer => k_is); (case aC_Alike => k_is); (case pg_Alike => k_is); (case hd_Alike => k_is)
    (case po_Alike => k_is); (case sa_Alike => k_is); (case mk_Alike => k_is); (case kc_Alike => k_is); (case ha_Alike => k_is); (case hm_Alike => k_is)
    (case aC_Never => k_is); (case pg_Never => k_is); (case hd_Never => k_is); (case po_Never => k_is); (case sa_Never => k_is); (case mk_Never => k_is)
    (case kc_Never => k_is); (case ha_Never => k_is); (case hm_Never => k_is); (case aC_GlassError => k_is); (case aC_BadRow => k_is); (case aC_BadEvening => k_is)
    (case hn0 => k_is); (case ht0 => k_is); (case am0 => k_is); (case im0 => k_is); (case lm0 => k_is); (case cm0 => k_is)
    (case km0 => k_is); (case am1 => k_is); (case im1 => k_is); (case lm1 => k_is); (case cm1 => k_is); (case km1 => k_is)
    (case am2 => k_is); (case im2 => k_is); (case lm2 => k_is); (case cm2 => k_is); (case km2 => k_is); (case eT0 => exact rfl)
    (case lT0 => k_is); (case gT0 => exact rfl); (case hT0 => exact by kernel_rfl); (case nT0 => exact by kernel_rfl); (case zT0 => exact hT8 _ (by k_mem)); (case eT1 => exact rfl)
    (case lT1 => k_is); (case gT1 => exact rfl); (case hT1 => exact by kernel_rfl); (case nT1 => exact by kernel_rfl); (case zT1 => exact hT8 _ (by k_mem)); (case eT2 => exact rfl)
    (case lT2 => k_is); (case gT2 => exact rfl); (case hT2 => exact by kernel_rfl); (case nT2 => exact by kernel_rfl); (case zT2 => exact hT8 _ (by k_mem)); (case dT1_0 => exact by decide)
    (case dT2_0 => exact by decide); (case dT0_1 => exact by decide); (case dT2_1 => exact by decide); (case dT0_2 => exact by decide); (case dT1_2 => exact by decide); (case nE => k_is)
    (case i_Never => k_is); (case ic_Alike => k_is); (case it_Alike => k_is); (case is_Alike => k_is); (case ic_Never => k_is); (case it_Never => k_is)
    (case is_Never => k_is); (case ic_Answer => k_is); (case it_Answer => k_is); (case is_Answer => k_is); (case sb2 => k_is); (case sb3 => k_is)
    (case sb4 => k_is); (case sb6 => k_is); (case xB => k_exc); (case kB => k_is); (case bB => k_is); (case tB => k_is)
    (case agB => k_is); (case akB => k_is); (case adB => k_is); (case aaB => k_is); (case amB => k_is); (case sGB => k_is)
    (case sVB => k_is); (case icB => k_is); (case sBB => k_is); (case sBE => k_is); (case xE => k_exc); (case kE => k_is)
    (case bE => k_is); (case tE => k_is); (case agE => k_is); (case akE => k_is); (case adE => k_is); (case aaE => k_is)
    (case amE => k_is); (case sGE => k_is); (case sVE => k_is); (case icE => k_is); (case sEB => k_is); (case sEE => k_is)
    (case xn => k_is); (case xt => k_is); (case bG => k_is); (case dG => k_is); (case tG => k_is); (case zV => k_is)
    (case z0 => k_is); (case z1 => k_is); (case z2 => k_is); (case z3 => k_is); (case z4 => k_is); (case z5 => k_is)
    (case z6 => k_is); (case z7 => k_is); (case z8 => k_is); (case z9 => k_is); (case z10 => k_is); (case z11 => k_is)
    (case z12 => k_is); (case z13 => k_is); (case z14 => k_is)
