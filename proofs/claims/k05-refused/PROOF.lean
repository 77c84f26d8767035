import PyProof.Rows.All
import Wide.All
import OpenK.AllK
import Wide.FinOn
import HandS.ForMost
import HandS.Exc
import HandS.TryOnly
import HandS.ExcOwn
import HandS.WordsExc
import HandS.Sort
import HandS.SortOrd
import HandS.SortRule
import HandS.Deep
import HandS.IsInst
import HandS.Style
import HandS.Wide
import HandS.TupLen
import HandS.EndBits
import KE.IntBitsLaws
import PyProof.Rows.SetFrom
import PyProof.Rows.RegSetDedup
import KE.SortData
import KE.KDictDisplayH
import PyProof.DictRoadsH
import HandS.CallRecv
import HandS.Lambda
import HandS.ExcIs
import HandS.EndTab
import HandS.CallLocal
import HandS.More
import KE.KNestM
import PySem.Challenge.RW_evenglasses_k05_refused
set_option Elab.async false
set_option maxRecDepth 100000
set_option maxHeartbeats 4000000
/-! Rows, their evenings, the row behind one: plain Lean. -/
namespace EG
abbrev Pr := Int × Int
def goodP (ns : List Int) (i j : Nat) : Bool := !decide (ns.getD i 0 = ns.getD j 0) && decide ((ns.getD i 0 + ns.getD j 0) % 2 = 0)
/-- the pairs (i, j), j the first k places behind i -/
def evI (ns : List Int) (i k : Nat) : List Pr := ((List.range' (i + 1) k).filter (goodP ns i)).map fun (j : Nat) => ((i : Int), (j : Int))
def evN (ns : List Int) (m : Nat) : List Pr := (List.range m).flatMap fun i => evI ns i (ns.length - (i + 1))
def evs (ns : List Int) : List Pr := evN ns ns.length
/-- the same by the greater place -/
def cnO (ns : List Int) (j k : Nat) : List Pr := ((List.range k).filter fun i => goodP ns i j).map fun (i : Nat) => ((i : Int), (j : Int))
def cnN (ns : List Int) (m : Nat) : List Pr := (List.range m).flatMap fun j => cnO ns j j

theorem evI_succ (ns : List Int) (i k : Nat) : evI ns i (k + 1) = evI ns i k ++ if goodP ns i (i + 1 + k) = true then [((i : Int), ((i + 1 + k : Nat) : Int))] else [] := by
  unfold evI
  rw [List.range'_concat, List.filter_append, List.map_append]
  by_cases h : goodP ns i (i + 1 + 1 * k) = true
  · rw [show i + 1 + k = i + 1 + 1 * k by omega, if_pos h, List.filter_cons_of_pos h]; rfl
  · rw [show i + 1 + k = i + 1 + 1 * k by omega, if_neg h, List.filter_cons_of_neg h]; rfl
theorem evN_succ (ns : List Int) (m : Nat) : evN ns (m + 1) = evN ns m ++ evI ns m (ns.length - (m + 1)) := by
  unfold evN
  rw [List.range_succ, List.flatMap_append, List.flatMap_singleton]
theorem cnO_succ (ns : List Int) (j k : Nat) : cnO ns j (k + 1) = cnO ns j k ++ if goodP ns k j = true then [((k : Int), (j : Int))] else [] := by
  unfold cnO
  rw [List.range_succ, List.filter_append, List.map_append]
  by_cases h : goodP ns k j = true
  · rw [if_pos h, List.filter_cons_of_pos (p := fun i => goodP ns i j) h]; rfl
  · rw [if_neg h, List.filter_cons_of_neg (p := fun i => goodP ns i j) h]; rfl
theorem cnN_succ (ns : List Int) (m : Nat) : cnN ns (m + 1) = cnN ns m ++ cnO ns m m := by
  unfold cnN
  rw [List.range_succ, List.flatMap_append, List.flatMap_singleton]

/-- an evening that can be -/
def IsEv (ns : List Int) (p : Pr) : Prop := ∃ i j : Nat, p = ((i : Int), (j : Int)) ∧ i < j ∧ j < ns.length ∧ goodP ns i j = true
theorem mem_evs {ns : List Int} {p : Pr} : p ∈ evs ns ↔ IsEv ns p := by
  unfold evs evN evI IsEv
  simp only [List.mem_flatMap, List.mem_range, List.mem_map, List.mem_filter, List.mem_range'_1]
  constructor
  · rintro ⟨i, hi, j, ⟨⟨h1, h2⟩, hg⟩, rfl⟩
    exact ⟨i, j, rfl, by omega, by omega, hg⟩
  · rintro ⟨i, j, rfl, h1, h2, hg⟩
    exact ⟨i, by omega, j, ⟨⟨by omega, by omega⟩, hg⟩, rfl⟩
theorem mem_cn {ns : List Int} {p : Pr} : p ∈ cnN ns ns.length ↔ IsEv ns p := by
  unfold cnN cnO IsEv
  simp only [List.mem_flatMap, List.mem_range, List.mem_map, List.mem_filter]
  constructor
  · rintro ⟨j, hj, i, ⟨h1, hg⟩, rfl⟩
    exact ⟨i, j, rfl, h1, hj, hg⟩
  · rintro ⟨i, j, rfl, h1, h2, hg⟩
    exact ⟨j, h2, i, ⟨h1, hg⟩, rfl⟩
/-- the order of pairs -/
def ltPr (p q : Pr) : Prop := p.1 < q.1 ∨ (p.1 = q.1 ∧ p.2 < q.2)
theorem evI_sorted (ns : List Int) (i k : Nat) : (evI ns i k).Pairwise ltPr := by
  unfold evI
  rw [List.pairwise_map]
  refine List.Pairwise.filter _ ?_
  refine (List.pairwise_lt_range' (s := i + 1) (n := k)).imp ?_
  intro a b h
  exact .inr ⟨rfl, by show (a : Int) < (b : Int); omega⟩
theorem mem_evI {ns : List Int} {i k : Nat} {p : Pr} (h : p ∈ evI ns i k) : p.1 = (i : Int) := by
  unfold evI at h
  obtain ⟨j, _, rfl⟩ := List.mem_map.mp h
  rfl
theorem evN_sorted (ns : List Int) : ∀ m, (evN ns m).Pairwise ltPr
  | 0 => List.Pairwise.nil
  | m + 1 => by
    rw [evN_succ, List.pairwise_append]
    refine ⟨evN_sorted ns m, evI_sorted _ _ _, fun p hp q hq => ?_⟩
    unfold evN at hp
    obtain ⟨i, hi, hp⟩ := List.mem_flatMap.mp hp
    have h1 := mem_evI hp
    have h2 := mem_evI hq
    have h3 := List.mem_range.mp hi
    exact .inl (by rw [h1, h2]; omega)
theorem evs_sorted (ns : List Int) : (evs ns).Pairwise ltPr := evN_sorted ns _
theorem ltPr_irrefl (p : Pr) : ¬ ltPr p p := by rintro (h | h) <;> omega
theorem evs_nodup (ns : List Int) : (evs ns).Nodup := List.Pairwise.imp (R := ltPr) (fun {a b} h (e : a = b) => ltPr_irrefl a (by rw [← e] at h; exact h)) (evs_sorted ns)
theorem cnN_nodup (ns : List Int) : ∀ m, (cnN ns m).Nodup
  | 0 => List.nodup_nil
  | m + 1 => by
    rw [cnN_succ, List.nodup_append]
    refine ⟨cnN_nodup ns m, ?_, fun p hp q hq e => ?_⟩
    · unfold cnO
      refine List.Pairwise.map _ ?_ (List.Pairwise.filter _ List.nodup_range)
      intro a b h e
      exact h (by have := (Prod.mk.inj e).1; omega)
    · unfold cnN at hp
      obtain ⟨j, hj, hp⟩ := List.mem_flatMap.mp hp
      unfold cnO at hp hq
      obtain ⟨a, _, rfl⟩ := List.mem_map.mp hp
      obtain ⟨b, _, rfl⟩ := List.mem_map.mp hq
      have := List.mem_range.mp hj
      have := (Prod.mk.inj e).2
      omega
theorem cn_perm (ns : List Int) : (cnN ns ns.length).Perm (evs ns) :=
  (List.perm_ext_iff_of_nodup (cnN_nodup ns _) (evs_nodup ns)).mpr fun p => by rw [mem_cn, mem_evs]
/-- a sorted rearrangement of the evenings is their list -/
theorem evs_uniq {ns : List Int} {l : List Pr} (hp : l.Perm (cnN ns ns.length)) (hs : l.Pairwise fun p q => ¬ ltPr q p) : l = evs ns := by
  refine List.Perm.eq_of_pairwise (le := fun p q => ¬ ltPr q p) ?_ hs ?_ (hp.trans (cn_perm ns))
  · intro a b _ _ h1 h2
    unfold ltPr at h1 h2
    have e1 : a.1 = b.1 := by omega
    have e2 : a.2 = b.2 := by omega
    exact Prod.ext e1 e2
  · exact (evs_sorted ns).imp fun {a b} h h' => by
      unfold ltPr at h h'
      omega

/-- the row behind the evening of the places i, j -/
def half (ns : List Int) (i j : Nat) : Int := (ns.getD i 0 + ns.getD j 0) / 2
def beh (ns : List Int) (i j : Nat) : List Int := (List.range ns.length).map fun k => if k = i ∨ k = j then half ns i j else ns.getD k 0
theorem beh_length (ns : List Int) (i j : Nat) : (beh ns i j).length = ns.length := by unfold beh; rw [List.length_map, List.length_range]
theorem beh_get (ns : List Int) (i j k : Nat) (h : k < ns.length) : (beh ns i j)[k]? = some (if k = i ∨ k = j then half ns i j else ns.getD k 0) := by
  unfold beh
  rw [List.getElem?_map, List.getElem?_range h]; rfl
theorem beh_set (ns : List Int) (i j : Nat) : (ns.set i (half ns i j)).set j (half ns i j) = beh ns i j := by
  apply List.ext_getElem?
  intro k
  by_cases h : k < ns.length
  · rw [beh_get ns i j k h, List.getElem?_set, List.getElem?_set]
    have e : ns[k]? = some (ns.getD k 0) := by rw [List.getElem?_eq_getElem h, List.getD_eq_getElem?_getD, List.getElem?_eq_getElem h]; rfl
    rw [e]
    simp only [List.length_set, h]
    by_cases h1 : j = k
    · subst h1; simp [h]
    · by_cases h2 : i = k
      · subst h2
        simp [h1, h]
      · have h3 : ¬ k = i := fun z => h2 z.symm
        have h4 : ¬ k = j := fun z => h1 z.symm
        simp [h1, h2, h3, h4]
  · rw [List.getElem?_eq_none (by rw [List.length_set, List.length_set]; omega), List.getElem?_eq_none (by rw [beh_length]; omega)]
end EG

/-! The text by places: law_k05_refused. -/
namespace EG
open PySem L2
def topS (i : Nat) : Stmt := PySem.Challenge.pw_evenglasses_k05_refused.main.body.getD i (.Pass ⟨0, 0, 0, 0⟩)
abbrev s__wall : Stmt := topS 0
theorem sc__wall : FnScope ["k"] ["k"] (defScope s__wall) := ⟨rfl, rfl, rfl, by decide +kernel, rfl, by decide +kernel, by decide +kernel⟩
abbrev s_GlassError : Stmt := topS 2
abbrev s_BadRow : Stmt := topS 3
abbrev s_BadEvening : Stmt := topS 4
abbrev s_is_whole : Stmt := topS 8
theorem sc_is_whole : FnScope ["thing"] ["thing"] (defScope s_is_whole) := ⟨rfl, rfl, rfl, by decide +kernel, rfl, by decide +kernel, by decide +kernel⟩
abbrev s_check_row : Stmt := topS 9
theorem sc_check_row : FnScope ["row", "most", "greatest", "one"] ["row", "most", "greatest"] (defScope s_check_row) := ⟨rfl, rfl, rfl, by decide +kernel, rfl, by decide +kernel, by decide +kernel⟩
abbrev s_evenings_of : Stmt := topS 10
theorem sc_evenings_of : FnScope ["row", "found", "one", "other"] ["row"] (defScope s_evenings_of) := ⟨rfl, rfl, rfl, by decide +kernel, rfl, by decide +kernel, by decide +kernel⟩
abbrev s_evenings : Stmt := topS 11
theorem sc_evenings : FnScope ["row"] ["row"] (defScope s_evenings) := ⟨rfl, rfl, rfl, by decide +kernel, rfl, by decide +kernel, by decide +kernel⟩
abbrev s_settled : Stmt := topS 12
theorem sc_settled : FnScope ["row"] ["row"] (defScope s_settled) := ⟨rfl, rfl, rfl, by decide +kernel, rfl, by decide +kernel, by decide +kernel⟩
abbrev s_behind : Stmt := topS 13
theorem sc_behind : FnScope ["row", "evening", "one", "other", "half", "place", "number"] ["row", "evening"] (defScope s_behind) := ⟨rfl, rfl, rfl, by decide +kernel, rfl, by decide +kernel, by decide +kernel⟩
abbrev s_check_evening : Stmt := topS 14
theorem sc_check_evening : FnScope ["row", "evening", "one"] ["row", "evening"] (defScope s_check_evening) := ⟨rfl, rfl, rfl, by decide +kernel, rfl, by decide +kernel, by decide +kernel⟩
abbrev s_evened : Stmt := topS 15
theorem sc_evened : FnScope ["row", "evening"] ["row", "evening"] (defScope s_evened) := ⟨rfl, rfl, rfl, by decide +kernel, rfl, by decide +kernel, by decide +kernel⟩
abbrev s_fall : Stmt := topS 16
theorem sc_fall : FnScope ["row", "evening", "apart"] ["row", "evening"] (defScope s_fall) := ⟨rfl, rfl, rfl, by decide +kernel, rfl, by decide +kernel, by decide +kernel⟩
abbrev s_Answer : Stmt := topS 18
abbrev s_are_alike : Stmt := topS 19
theorem sc_are_alike : FnScope ["row"] ["row"] (defScope s_are_alike) := ⟨rfl, rfl, rfl, by decide +kernel, rfl, by decide +kernel, by decide +kernel⟩
abbrev s_way_to_alike : Stmt := topS 20
theorem sc_way_to_alike : FnScope ["row", "line", "met", "longer", "here", "gone", "evening", "there"] ["row"] (defScope s_way_to_alike) := ⟨rfl, rfl, rfl, by decide +kernel, rfl, by decide +kernel, by decide +kernel⟩
abbrev s_Alike : Stmt := topS 21
abbrev s_Alike_init : Stmt := inClass (topS 21) 0
theorem sc_Alike_init : FnScope ["self", "evenings"] ["self", "evenings"] (defScope s_Alike_init) := ⟨rfl, rfl, rfl, by decide +kernel, rfl, by decide +kernel, by decide +kernel⟩
abbrev s_Alike_shows : Stmt := inClass (topS 21) 1
theorem sc_Alike_shows : FnScope ["self", "row"] ["self", "row"] (defScope s_Alike_shows) := ⟨rfl, rfl, rfl, by decide +kernel, rfl, by decide +kernel, by decide +kernel⟩
abbrev s_Never : Stmt := topS 22
abbrev s_Never_shows : Stmt := inClass (topS 22) 0
theorem sc_Never_shows : FnScope ["self", "row"] ["self", "row"] (defScope s_Never_shows) := ⟨rfl, rfl, rfl, by decide +kernel, rfl, by decide +kernel, by decide +kernel⟩
abbrev s_alike : Stmt := topS 26
theorem sc_alike : FnScope ["row", "found"] ["row"] (defScope s_alike) := ⟨rfl, rfl, rfl, by decide +kernel, rfl, by decide +kernel, by decide +kernel⟩
abbrev s_bounds_of : Stmt := topS 27
theorem sc_bounds_of : FnScope ["row", "known", "spot", "some", "evening", "low", "high"] ["row", "known"] (defScope s_bounds_of) := ⟨rfl, rfl, rfl, by decide +kernel, rfl, by decide +kernel, by decide +kernel⟩
abbrev s_fewest_most : Stmt := topS 28
theorem sc_fewest_most : FnScope ["row"] ["row"] (defScope s_fewest_most) := ⟨rfl, rfl, rfl, by decide +kernel, rfl, by decide +kernel, by decide +kernel⟩
abbrev s_ends : Stmt := topS 29
theorem sc_ends : FnScope ["row", "found", "waiting", "met", "here", "some", "evening", "there"] ["row"] (defScope s_ends) := ⟨rfl, rfl, rfl, by decide +kernel, rfl, by decide +kernel, by decide +kernel⟩
abbrev s_l_cell_at : Stmt := topS 31
theorem sc_l_cell_at : FnScope ["_law_script", "_law_k"] ["_law_script", "_law_k"] (defScope s_l_cell_at) := ⟨rfl, rfl, rfl, by decide +kernel, rfl, by decide +kernel, by decide +kernel⟩
abbrev s_l_draw : Stmt := topS 32
theorem sc_l_draw : FnScope ["_law_cell", "_law_k", "_law_many", "_law_primes"] ["_law_cell", "_law_k", "_law_many"] (defScope s_l_draw) := ⟨rfl, rfl, rfl, by decide +kernel, rfl, by decide +kernel, by decide +kernel⟩
abbrev s_l_value : Stmt := topS 33
theorem sc_l_value : FnScope ["_law_cell", "_law_turn", "_law_mixed"] ["_law_cell", "_law_turn"] (defScope s_l_value) := ⟨rfl, rfl, rfl, by decide +kernel, rfl, by decide +kernel, by decide +kernel⟩
abbrev s_l_kinds : Stmt := topS 34
theorem sc_l_kinds : FnScope ["_law_ask", "_law_found", "error"] ["_law_ask"] (defScope s_l_kinds) := ⟨rfl, rfl, rfl, by decide +kernel, rfl, by decide +kernel, by decide +kernel⟩
abbrev s_l_strange : Stmt := topS 35
theorem sc_l_strange : FnScope ["_law_far"] ["_law_far"] (defScope s_l_strange) := ⟨rfl, rfl, rfl, by decide +kernel, rfl, by decide +kernel, by decide +kernel⟩
abbrev s_l_no_rows : Stmt := topS 36
theorem sc_l_no_rows : FnScope ["_law_far", "_law_most", "_law_greatest", "_law_bad", "_law_strange_here", "_law_row"] ["_law_far", "_law_most", "_law_greatest"] (defScope s_l_no_rows) := ⟨rfl, rfl, rfl, by decide +kernel, rfl, by decide +kernel, by decide +kernel⟩
abbrev s_l_right : Stmt := topS 37
theorem sc_l_right : FnScope ["_law_far", "_law_bad", "_law_ask", "_law_pairs", "_law_strange_here", "_law_pair"] ["_law_far"] (defScope s_l_right) := ⟨rfl, rfl, rfl, by decide +kernel, rfl, by decide +kernel, by decide +kernel⟩
abbrev s_law : Stmt := topS 38
theorem sc_law : FnScope ["_law_script", "_law_by"] ["_law_script"] (defScope s_law) := ⟨rfl, rfl, rfl, by decide +kernel, rfl, by decide +kernel, by decide +kernel⟩
end EG

/-! Rules of my own over the hand layer, and words about heaps. -/
namespace EG
open PySem PySem.Spec PyProof.Rows L2
section
variable {X : Cx}
/-- a product of ints of any size that the model bears -/
theorem op_mulB : OpR X (binaryOp .Mult) (rI IntMulOk fun i j => .int (i * j)) :=
  opI fun _ _ _ _ _ _ _ hc q => PyProof.Rows.mul_int q hc

/-- readings of len, list, tuple by K -/
abbrev rLenS (K : PySem.W.Frag) : List V → Hp → VK → Prop := fun xs H Q => ∃ p ys, xs = [.ref p] ∧ (SqL K H p ys ∨ SqT K H p ys) ∧ Q (.int ys.length) H
abbrev rListOf (K : PySem.W.Frag) : List V → Hp → VK → Prop := fun xs H Q => ∃ p ys, xs = [.ref p] ∧ (SqL K H p ys ∨ SqT K H p ys) ∧ ∀ l, H l = none → Q (.ref l) (upd H l (.lst ys))
abbrev rTupOf (K : PySem.W.Frag) : List V → Hp → VK → Prop := fun xs H Q => ∃ p ys, xs = [.ref p] ∧ ((SqL K H p ys ∧ ∀ l, H l = none → Q (.ref l) (upd H l (.tup ys))) ∨ (SqT K H p ys ∧ Q (.ref p) H))
/-! ### xs[::k]: some of its items -/
theorem vals_pick {xs : List V} {its : List Value} (r : Vals xs its) : ∀ idx : List Nat, Vals (idx.filterMap (xs[·]?)) (idx.filterMap (its.toArray[·]?))
  | [] => .nil
  | i :: idx => by
    have ih := vals_pick r idx
    cases e : xs[i]? with
    | none =>
      have e2 := r.none_of e
      rw [List.filterMap_cons_none e, List.filterMap_cons_none (by simpa using e2)]
      exact ih
    | some x =>
      obtain ⟨u, e2, ru⟩ := r.get e
      rw [List.filterMap_cons_some e, List.filterMap_cons_some (by simpa using e2)]
      exact .cons ru ih
def tStep (K : PySem.W.Frag) (te : TE) (ts : TO) : TE := fun σ H Q => te σ H fun x H1 => ts σ H1 fun o H2 =>
  ∃ (a : Addr) (xs : List V) (k : Int), x = .ref a ∧ o = some k ∧ k ≠ 0 ∧ SqL K H2 a xs ∧
    ∀ (p : Addr) (ys : List V), (∀ z ∈ ys, z ∈ xs) → ys.length ≤ xs.length → H2 p = none → Q (.ref p) (upd H2 p (.lst ys))
theorem pe_step {e st : Expr} {te : TE} {ts : TO} {p3 pos : Pos} (he : PE X e te) (hst : PO X (some st) ts) :
    PE X (.Subscript e (.Slice none none (some st) p3) pos) (tStep X.K te ts) := by
  refine ⟨fun pins s σ H Q I h => ?_⟩
  refine PyProof.Rows.Subscript_ (thn (he.run pins s σ H _ I h) fun v sA ⟨x, HA, IA, rA, qA⟩ => ?_)
  refine wpAny_Slice (thn (po_none.run pins sA σ HA (fun o Ho => o = none ∧ Ho = HA) IA ⟨rfl, rfl⟩) fun vl sB ⟨l, HB, IB, pl, el, eB⟩ => ?_)
  subst el eB
  refine thn (po_none.run pins sB σ HB (fun o Ho => o = none ∧ Ho = HB) IB ⟨rfl, rfl⟩) fun vu sC ⟨u, HC, IC, pu, eu, eC⟩ => ?_
  subst eu eC
  refine thn (hst.run pins sC σ HC _ IC qA) fun vs sD ⟨o, HD, ID, ps, qD⟩ => ?_
  obtain ⟨a, xs, k, ex, eo, k0, hx, q⟩ := qD
  subst ex eo
  cases rA
  have IE : Inv X pins σ HD { sD with heap := sD.heap.push { cls := .type "slice", data := .fields #[vl, vu, vs] } } := ID.kept (t' := sD.toks) fun b ob z => Heap.get?_push_of_some _ z
  obtain ⟨its, r, ht, hz⟩ := IE.list hx
  have hlen := r.length
  show wpAny (model X.prog X.w) X.A (subscriptTail e (.Slice none none (some st) p3) (.ref a) (.ref sD.heap.objs.size)) (EP X pins σ Q) X.xe { sD with heap := sD.heap.push { cls := .type "slice", data := .fields #[vl, vu, vs] } }
  refine tail_any (ops := [.ref a, .ref sD.heap.objs.size]) ht.isList.typeIs (PySem.slot_list_getitem.lookup) ?_ (by with_unfolding_all rfl)
  refine wpAny_getItem_list_slice ht.isList (Heap.IsSliceOf.new _ vl vu vs) pl pu ps (fun z => k0 (Option.some.inj z)) ?_ (by rw [List.size_toArray]; omega)
  have lenL := slicePick_size_le its.toArray none none (some k)
  obtain ⟨idx, ei⟩ : ∃ idx : List Nat, slicePick its.toArray none none (some k) = (idx.filterMap (its.toArray[·]?)).toArray := ⟨_, rfl⟩
  rw [ei] at lenL ⊢
  have rp := vals_pick r idx
  have lp := rp.length
  rw [List.size_toArray, List.size_toArray, ← lp, ← hlen] at lenL
  refine ⟨.ref _, _, IE.laid (t' := sD.toks) (o := .lst (idx.filterMap (xs[·]?))) (fun b ob z => Heap.get?_push_of_some _ z) (Nat.le_refl _) ?_, rfl, q _ _ (fun z hzm => ?_) lenL (IE.hok.fresh (Nat.le_refl _))⟩
  · exact ⟨by omega, _, 0, rp, Heap.get?_push_size _ rfl⟩
  · obtain ⟨i, _, e⟩ := List.mem_filterMap.mp hzm
    exact List.mem_of_getElem? e

/-! ### len(set(xs)), xs a list of ints -/
def dcount (ns : List Int) : Nat := (PyProof.Rows.firstMet (fun i => ns.getD i 0) ns.length).length
def tLenSetG (K : PySem.W.Frag) (ta : TE) : TE := fun σ H Q => ta σ H fun x H1 =>
  ∃ (l : Addr) (ns : List Int), x = .ref l ∧ SqL K H1 l (ns.map V.int) ∧ ns.length ≤ 4000 ∧ Q (.int (dcount ns : Nat)) H1
theorem pe_lenSetG {a : Expr} {ta : TE} {p p2 q pos : Pos} (hg : Gl X "len") (hm : X.mg "len" = none) (hg2 : Gl X "set") (hm2 : X.mg "set" = none) (ha : PE X a ta) (hc : X.calm = true := by rfl)
    (na : starEach [a] X.env = (false, eval a X.env) :: starEach [] X.env := by rfl) :
    PE X (.Call (.Name "len" p) [.Call (.Name "set" p2) [a] [] q] [] pos) (tLenSetG X.K ta) := by
  refine ⟨fun pins s σ H Q I h => ?_⟩
  refine PyProof.Rows.Call_ (ld_blt I hg hm boot_len (PyProof.Rows.callWith_builtin1 (PyProof.Rows.args_cons ?_ rfl) rfl rfl))
  refine PyProof.Rows.Call_ (ld_blt I hg2 hm2 PyProof.Rows.boot_set (PyProof.Rows.callWith_type1 ?_ na rfl))
  refine PyProof.Rows.args_cons (thn (ha.run pins s σ H _ I h) fun v sA ⟨x, HA, IA, rA, qA⟩ => PyProof.Rows.args_nil ?_) na
  obtain ⟨l, ns, rfl, hq, hl, qA⟩ := qA
  cases rA
  obtain ⟨its, r, pl, hz⟩ := IA.list hq
  have hlen : its.toArray.size = ns.length := by rw [List.size_toArray, ← r.length, List.length_map]
  refine call_set_list (IA.ok.hd hc) pl.isList (by simpa using intsAre_of r) (by rw [hlen]; unfold scanBound; omega) fun hB tk hS hk => ?_
  refine PyProof.Rows.args_nil ?_
  rw [hlen] at hS
  have dle : dcount ns ≤ ns.length := PyProof.Rows.firstMet_length_le _ _
  obtain ⟨o, es, ep, t, ho, hex, hd, _, _, _, hf, hn⟩ := hS
  have IB : Inv X pins σ HA { sA with heap := hB, toks := tk } := IA.kept fun b o e => hk b o (Heap.lt_size e) e
  have hn2 : es.size = dcount ns := hn
  exact call_len_set ho hex hd hf (by rw [hn2]; omega) ⟨.int (dcount ns : Nat), HA, IB.tok _, ⟨_, by rw [hn2]⟩, qA⟩
end

/-! ### a def of the text that keeps a promise, as its callers use it -/
def Cal (CX : CXT) (P : Program) (w : World) (K : PySem.W.Frag) (mg : Str → Option Value) (base : Heap) (x : Str) (ps : List Str) (k : Nat) (sp : Sp) : Prop :=
  ∃ (f : Addr) (fd : FuncData), FnOk P w K mg base CX k f fd ps sp ∧ mg x = some (.ref f) ∧ PySem.W.keepIn K (.ref f) = true ∧ Binds K fd ps []
section
variable {X : Cx} {x : Str} {ps : List Str} {j k : Nat} {sp : Sp} {e : Expr} {es : List Expr} {t : TA} {p pos : Pos}
theorem pe_calX {CX : CXT} {E : XK} (c : Cal CX X.prog X.w X.K X.mg X.base x ps j sp) (hr : Room k X.A) (hx : Passes CX X E) (hg : Gl X x) (ha : PA X (e :: es) t) (hj : j ≤ k := by decide) (hdb : (x == ("__debug__" : Str)) = false := by decide)
    (he : starEach (e :: es) X.env = (false, eval e X.env) :: starEach es X.env := by rfl) (hpl : (backTo pos (starEach es X.env)).any (·.1) = false := by rfl) :
    PE X (.Call (.Name x p) (e :: es) [] pos) (tCall sp [] E t) := by
  obtain ⟨f, fd, F, gf, kf, bf⟩ := c
  exact pe_call F (hr.mono hj) hg gf kf bf .nil hx ha hdb he hpl
theorem pe_cal (c : Cal CX0 X.prog X.w X.K X.mg X.base x ps j sp) (hr : Room k X.A) (hg : Gl X x) (ha : PA X (e :: es) t) (hj : j ≤ k := by decide) (hdb : (x == ("__debug__" : Str)) = false := by decide)
    (he : starEach (e :: es) X.env = (false, eval e X.env) :: starEach es X.env := by rfl) (hpl : (backTo pos (starEach es X.env)).any (·.1) = false := by rfl) :
    PE X (.Call (.Name x p) (e :: es) [] pos) (tCall sp [] E0 t) := pe_calX c hr pass0 hg ha hj hdb he hpl
end

/-! ### pairs of ints -/
def IsP (H : Hp) (v : V) (p : Pr) : Prop := ∃ t, v = .ref t ∧ H t = some (.tup [.int p.1, .int p.2])
abbrev Prs (H : Hp) : List V → List Pr → Prop := Paired (IsP H)
/-- the tuples stand as before -/
def TupS (H H' : Hp) : Prop := ∀ b xs, H b = some (.tup xs) → H' b = some (.tup xs)
theorem TupS.refl (H : Hp) : TupS H H := fun _ _ h => h
theorem TupS.trans {H H1 H2 : Hp} (a : TupS H H1) (b : TupS H1 H2) : TupS H H2 := fun c xs h => b c xs (a c xs h)
theorem Same.tups {H H' : Hp} (s : Same H H') : TupS H H' := fun b xs h => s b _ h
theorem same_new {H : Hp} {p : Addr} {o : HO} (h : H p = none) : Same H (upd H p o) := fun b x e => by
  rw [upd_ne (ne_of_none e h)]; exact e
theorem tups_lst {H : Hp} {p : Addr} {xs : List V} {o : HO} (h : H p = some (.lst xs)) : TupS H (upd H p o) := fun b ys e => by
  rw [upd_ne (ne_of e h (by intro z; cases z))]; exact e
theorem IsP.mono {H H' : Hp} (s : TupS H H') {v : V} {p : Pr} (h : IsP H v p) : IsP H' v p := by
  obtain ⟨t, e, h⟩ := h
  exact ⟨t, e, s t _ h⟩
theorem Prs.mono {H H' : Hp} (s : TupS H H') {vs : List V} {ps : List Pr} (h : Prs H vs ps) : Prs H' vs ps := Paired.mapP h fun _ _ q => q.mono s
theorem Prs.length {H : Hp} {vs : List V} {ps : List Pr} (h : Prs H vs ps) : vs.length = ps.length := Paired.length h
theorem prs_app {H : Hp} : ∀ {vs ws : List V} {ps qs : List Pr}, Prs H vs ps → Prs H ws qs → Prs H (vs ++ ws) (ps ++ qs)
  | _, _, _, _, .nil, h => h
  | _, _, _, _, .cons r t, h => .cons r (prs_app t h)
theorem prs_at {H : Hp} : ∀ {vs : List V} {ps : List Pr} {i : Nat} {v : V}, Prs H vs ps → vs[i]? = some v → ∃ p, ps[i]? = some p ∧ IsP H v p
  | _, _, _, _, .nil, e => by simp at e
  | _, _, 0, _, .cons r _, e => by simp at e; subst e; exact ⟨_, rfl, r⟩
  | _, _, i + 1, v, .cons _ t, e => by
    obtain ⟨p, h1, h2⟩ := prs_at (i := i) (v := v) t (by simpa using e)
    exact ⟨p, by simpa using h1, h2⟩
theorem prs_mem {H : Hp} {vs : List V} {ps : List Pr} {v : V} (h : Prs H vs ps) (hv : v ∈ vs) : ∃ p, p ∈ ps ∧ IsP H v p := by
  obtain ⟨i, e⟩ := List.mem_iff_getElem?.mp hv
  obtain ⟨p, h1, h2⟩ := prs_at h e
  exact ⟨p, List.mem_of_getElem? h1, h2⟩

/-! ### as data -/
def prD (p : Pr) : PyData := .tuple [.int p.1, .int p.2]
def prsD (ps : List Pr) : PyData := .list (ps.map prD)
def rowD (ns : List Int) : PyData := .list (ns.map PyData.int)
section
variable {K : PySem.W.Frag} {H : Hp}
theorem dp_pr {v : V} {p : Pr} (h : IsP H v p) : Dp K H v (prD p) := by
  obtain ⟨t, rfl, h⟩ := h
  exact .tup (SqT.of h) (.cons (.int _) (.cons (.int _) .nil))
theorem dp_prT {a : Addr} {p : Pr} (h : SqT K H a [.int p.1, .int p.2]) : Dp K H (.ref a) (prD p) := .tup h (.cons (.int _) (.cons (.int _) .nil))
theorem dpa_prs : ∀ {vs : List V} {ps : List Pr}, Prs H vs ps → DpAll K H vs (ps.map prD)
  | _, _, .nil => .nil
  | _, _, .cons r t => .cons (dp_pr r) (dpa_prs t)
theorem dp_prs {a : Addr} {vs : List V} {ps : List Pr} (h : SqL K H a vs) (r : Prs H vs ps) : Dp K H (.ref a) (prsD ps) := .lst h (dpa_prs r)
theorem dpa_ints : ∀ ns : List Int, DpAll K H (ns.map V.int) (ns.map PyData.int)
  | [] => .nil
  | n :: ns => .cons (.int n) (dpa_ints ns)
theorem dp_row {a : Addr} {ns : List Int} (h : SqL K H a (ns.map V.int)) : Dp K H (.ref a) (rowD ns) := .lst h (dpa_ints ns)
end
theorem eqv_pr (p q : Pr) : PyData.eqv (prD p) (prD q) = decide (p = q) := by
  obtain ⟨a, b⟩ := p
  obtain ⟨c, d⟩ := q
  simp only [prD, PyData.eqv, PyData.eqvAll, Prod.mk.injEq, Bool.and_true]
  rw [Bool.decide_and]
  rfl
theorem eqv_prs : ∀ ps qs : List Pr, PyData.eqv (prsD ps) (prsD qs) = decide (ps = qs)
  | [], [] => by simp [prsD, PyData.eqv, PyData.eqvAll]
  | [], _ :: _ => by simp [prsD, PyData.eqv, PyData.eqvAll]
  | _ :: _, [] => by simp [prsD, PyData.eqv, PyData.eqvAll]
  | p :: ps, q :: qs => by
    have ih := eqv_prs ps qs
    simp only [prsD, PyData.eqv] at ih
    simp only [prsD, PyData.eqv, PyData.eqvAll, List.map_cons, eqv_pr, ih, List.cons.injEq]
    rw [Bool.decide_and]
theorem eqv_row : ∀ ns ms : List Int, PyData.eqv (rowD ns) (rowD ms) = decide (ns = ms)
  | [], [] => by simp [rowD, PyData.eqv, PyData.eqvAll]
  | [], _ :: _ => by simp [rowD, PyData.eqv, PyData.eqvAll]
  | _ :: _, [] => by simp [rowD, PyData.eqv, PyData.eqvAll]
  | n :: ns, m :: ms => by
    have ih := eqv_row ns ms
    simp only [rowD, PyData.eqv] at ih
    simp only [rowD, PyData.eqv, PyData.eqvAll, List.map_cons, ih, List.cons.injEq]
    rw [Bool.decide_and]
    rfl
theorem depth_pr (p : Pr) : (prD p).depth = 1 := by simp [prD, PyData.depth, PyData.depthAll]
theorem lay_prs : ∀ ps : List Pr, PyData.canLayAll0 (ps.map prD) = true ∧ PyData.depthAll (ps.map prD) ≤ 1
  | [] => by simp [PyData.canLayAll0, PyData.depthAll]
  | p :: ps => by
    have ih := lay_prs ps
    have h := depth_pr p
    refine ⟨by simp [PyData.canLayAll0, ih.1, prD, PyData.canLay0], ?_⟩
    simp only [List.map_cons, PyData.depthAll]
    omega
theorem lay_ints : ∀ ns : List Int, PyData.canLayAll0 (ns.map PyData.int) = true ∧ PyData.depthAll (ns.map PyData.int) = 0
  | [] => by simp [PyData.canLayAll0, PyData.depthAll]
  | n :: ns => by
    have ih := lay_ints ns
    refine ⟨by simp [PyData.canLayAll0, ih.1, PyData.canLay0], ?_⟩
    simp only [List.map_cons, PyData.depthAll, PyData.depth, ih.2]
    decide
theorem shaped_pr (p : Pr) : SeqAt.shaped (prD p) = true := by
  unfold SeqAt.shaped
  rw [depth_pr, Bool.and_eq_true]
  exact ⟨by simp [prD, PyData.canLay0, PyData.canLayAll0], by decide⟩
theorem shaped_prs (ps : List Pr) : SeqAt.shaped (prsD ps) = true := by
  have h := lay_prs ps
  unfold SeqAt.shaped
  rw [Bool.and_eq_true]
  refine ⟨by simp only [prsD, PyData.canLay0]; exact h.1, decide_eq_true ?_⟩
  simp only [prsD, PyData.depth]
  omega
theorem shaped_row (ns : List Int) : SeqAt.shaped (rowD ns) = true := by
  have h := lay_ints ns
  unfold SeqAt.shaped
  rw [Bool.and_eq_true]
  refine ⟨by simp only [rowD, PyData.canLay0]; exact h.1, decide_eq_true ?_⟩
  simp only [rowD, PyData.depth]
  omega
theorem any_prs (p : Pr) (ps : List Pr) : ((ps.map prD).any fun z => PyData.eqv z (prD p)) = decide (p ∈ ps) := by
  induction ps with
  | nil => simp
  | cons q ps ih =>
    rw [List.map_cons, List.any_cons, ih, eqv_pr]
    by_cases h : q = p
    · subst h; simp
    · have h2 : ¬ p = q := fun z => h z.symm
      simp [h, h2]
end EG

/-! The program's own functions: what each answers. -/
namespace EG
open PySem L2
theorem itP {c A B : Prop} [Decidable c] (h : c) (x : A) : if c then A else B := by rw [if_pos h]; exact x
theorem itN {c A B : Prop} [Decidable c] (h : ¬ c) (x : B) : if c then A else B := by rw [if_neg h]; exact x
theorem room65 {k : Nat} {A : Around} (r : Room k A) : A.units + 65 < cLine := by have := r.un; omega
theorem dec_int (a b : Int) : decide (V.int a = V.int b) = decide (a = b) := by
  by_cases h : a = b
  · subst h; simp
  · have h2 : ¬ V.int a = V.int b := fun z => h (V.int.inj z)
    rw [decide_eq_false h, decide_eq_false h2]
/-- a list of ints that may be changed -/
def Lst (H : Hp) (a : Addr) (ns : List Int) : Prop := H a = some (.lst (ns.map V.int))
theorem Lst.sq {K : PySem.W.Frag} {H : Hp} {a : Addr} {ns : List Int} (h : Lst H a ns) : SqL K H a (ns.map V.int) := SqL.of h
theorem Lst.mono {H H' : Hp} {a : Addr} {ns : List Int} (s : Same H H') (h : Lst H a ns) : Lst H' a ns := s _ _ h
theorem row_get {ns : List Int} {i : Nat} (h : i < ns.length) : (ns.map V.int)[i]? = some (.int (ns.getD i 0)) := by
  rw [List.getElem?_map, List.getElem?_eq_getElem h, List.getD_eq_getElem?_getD, List.getElem?_eq_getElem h]; rfl
theorem row_item {ns : List Int} {i : Nat} {x : V} (h : (ns.map V.int)[i]? = some x) : ∃ n, x = .int n ∧ ns[i]? = some n := by
  rw [List.getElem?_map] at h
  cases e : ns[i]? with
  | none => rw [e] at h; cases h
  | some n => rw [e] at h; exact ⟨n, (Option.some.inj h).symm, rfl⟩
/-- is it a number -/
def Whole (K : PySem.W.Frag) (H : Hp) (x : V) (b : Bool) : Prop := ∃ (t : Value) (b1 b2 : Bool), TyX K H x t ∧ PySem.W.kitOne K t (.type "int") = some b1 ∧ (b1 = true → PySem.W.kitOne K t (.type "bool") = some b2) ∧ b = (b1 && !b2)
theorem whole_int {K : PySem.W.Frag} {H : Hp} (i : Int) : Whole K H (.int i) true := ⟨_, true, false, .base (.int i), kit_ty (by decide +kernel), fun _ => kit_ty (by decide +kernel), rfl⟩
def RowOk (ns : List Int) (m g : Int) : Prop := 1 ≤ ns.length ∧ (ns.length : Int) ≤ m ∧ ∀ x ∈ ns, 0 ≤ x ∧ x ≤ g
/-- the built-ins that the program names -/
structure Blt (mg : Str → Option Value) : Prop where
  isi : mg "isinstance" = none
  int : mg "int" = none
  bool : mg "bool" = none
  list : mg "list" = none
  len : mg "len" = none
  all : mg "all" = none
  range : mg "range" = none
  enum : mg "enumerate" = none
  tuple : mg "tuple" = none
  min : mg "min" = none
  max : mg "max" = none
  sorted : mg "sorted" = none
  sum : mg "sum" = none
  set : mg "set" = none
  any : mg "any" = none
theorem Same.seqT {K : PySem.W.Frag} {H H' : Hp} {a : Addr} {xs : List V} (e : Same H H') (h : SqT K H a xs) : SqT K H' a xs := by
  rcases h with (h | ⟨o, h⟩) | h
  · exact .inl (.inl (e _ _ h))
  · exact .inl (.inr ⟨o, e _ _ h⟩)
  · exact .inr h
theorem RowOk.len12 {ns : List Int} {g : Int} (h : RowOk ns 12 g) : ns.length ≤ 12 := by have := h.2.1; omega
theorem evI_len (ns : List Int) (i k : Nat) : (evI ns i k).length ≤ k := by
  unfold evI
  rw [List.length_map]
  exact Nat.le_trans (List.length_filter_le _ _) (by rw [List.length_range']; exact Nat.le_refl _)
theorem evN_len (ns : List Int) : ∀ m, (evN ns m).length ≤ m * ns.length
  | 0 => Nat.zero_le _
  | m + 1 => by
    have ih := evN_len ns m
    have h := evI_len ns m (ns.length - (m + 1))
    rw [evN_succ, List.length_append, Nat.succ_mul]
    omega
theorem evs_len {ns : List Int} (h : ns.length ≤ 12) : (evs ns).length ≤ 144 := Nat.le_trans (evN_len ns _) (Nat.le_trans (Nat.mul_le_mul h h) (by decide))
def behP (ns : List Int) (p : Pr) : List Int := beh ns p.1.toNat p.2.toNat
def fallP (ns : List Int) (p : Pr) : Int := (ns.getD p.1.toNat 0 - ns.getD p.2.toNat 0) * (ns.getD p.1.toNat 0 - ns.getD p.2.toNat 0) / 2
theorem RowOk.getD {ns : List Int} {m g : Int} (h : RowOk ns m g) {i : Nat} (hi : i < ns.length) : 0 ≤ ns.getD i 0 ∧ ns.getD i 0 ≤ g := by
  have e : ns.getD i 0 = ns[i] := by rw [List.getD_eq_getElem?_getD, List.getElem?_eq_getElem hi]; rfl
  rw [e]
  exact h.2.2 _ (List.getElem_mem hi)
end EG

/-! is_whole, check_row. -/
namespace EG
open PySem L2
section
variable {P : Program} {w : World} {K : PySem.W.Frag} {mg : Str → Option Value} {base : Heap}
/-! ### is_whole -/
def sp_is_whole (K : PySem.W.Frag) : Sp := fun vs H Q _ => ∃ (x : V) (b : Bool), vs = [x] ∧ Whole K H x b ∧ Q (.bl b) H
theorem ok_is_whole {f : Addr} {fd : FuncData} (F : Fun K "is_whole" "is_whole" s_is_whole f fd) (B : Blt mg) : FnOk P w K mg base CX0 1 f fd ["thing"] (sp_is_whole K) := by
  refine F.ok sc_is_whole (fun vs H Q E h => ?_) (fun cdv A outer s H vs Q E hr h => ?_)
  · obtain ⟨x, b, rfl, _⟩ := h
    rfl
  · obtain ⟨x, b, rfl, ⟨t, b1, b2, ht, h1, h2, rfl⟩, q⟩ := h
    refine ⟨_, pss_one (ps_ret (pe_and (pe_callB call_isi (by rfl) B.isi PyProof.Rows.boot_isinstance (pa_cons (pv 0) (pa_cons (pe_bltn (v := .ty "int") (by rfl) B.int PyProof.Rows.boot_int rfl) pa_nil)))
      (pe_one (pe_not (pe_callB call_isi (by rfl) B.isi PyProof.Rows.boot_isinstance (pa_cons (pv 0) (pa_cons (pe_bltn (v := .ty "bool") (by rfl) B.bool PyProof.Rows.boot_bool rfl) pa_nil))))))), ?_⟩
    refine ⟨x, rfl, _, _, _, _, b1, rfl, .ty _, ht, h1, b1, rfl, ?_⟩
    cases b1 with
    | false => exact iteF q
    | true => exact iteT ⟨x, rfl, _, _, _, _, b2, rfl, .ty _, ht, h2 rfl, b2, rfl, q⟩
/-! ### check_row, of a row -/
def sp_check_row : Sp := fun vs H Q _ => ∃ (a : Addr) (ns : List Int) (m g : Int), vs = [.ref a, .int m, .int g] ∧ Lst H a ns ∧ ns.length ≤ 900 ∧ RowOk ns m g ∧ ∀ H', Same H H' → Q .non H'
theorem ok_check_row {f : Addr} {fd : FuncData} (F : Fun K "check_row" "check_row" s_check_row f fd) (B : Blt mg) (cW : Cal CX0 P w K mg base "is_whole" ["thing"] 1 (sp_is_whole K)) :
    FnOk P w K mg base CX0 2 f fd ["row", "most", "greatest"] sp_check_row := by
  refine F.ok sc_check_row (fun vs H Q E h => ?_) (fun cdv A outer s H vs Q E hr h => ?_)
  · obtain ⟨a, ns, m, g, rfl, _⟩ := h
    rfl
  · obtain ⟨a, ns, m, g, rfl, hL, hl, ⟨h1, h2, h3⟩, q⟩ := h
    refine ⟨_, pss_cons (ps_if (PW.pt (pw_or (pt_not (pt_val (pe_callB call_isi (by rfl) B.isi PyProof.Rows.boot_isinstance (pa_cons (pv 0) (pa_cons (pe_bltn (v := .ty "list") (by rfl) B.list PyProof.Rows.boot_list rfl) pa_nil)))))
          (pw_or1 (pt_not (pt_chain op_le op_le pe_int (pe_callB call_len_seq (by rfl) B.len PySem.boot_len (pa_cons (pv 0) pa_nil)) (pv 1))))))
        (pss_one ps_never) pss_nil)
      (pss_one (ps_if (pt_not (pt_val (pe_callB (cr_all rfl) (by rfl) B.all PyProof.Rows.boot_all (pa_cons
          (pe_lc (own := [("one", 3)]) (g := gName 3) (tt := tYes) rfl sc_check_row.nd (pi_list (pv 0)) (blkOk_by (N := ["row", "most", "greatest", "one"]) (sc := defScope s_check_row) (by decide +kernel))
            (fun _ _ _ _ _ => pg_name (i := 3) sc_check_row.nd rfl (Or.inl rfl)) (fun _ _ _ _ _ => pts_nil)
            (fun _ _ _ _ _ => pe_and (pe_cal cW hr (by rfl) (pa_cons (pv 3) pa_nil)) (pe_one (pe_chain op_le op_le pe_int (pv 3) (pv 2))))) pa_nil))))
        (pss_one ps_never) pss_nil)), ?_⟩
    refine ⟨.ref a, rfl, _, _, _, _, true, rfl, .ty _, .base (.lst hL), kit_ty (by decide +kernel), true, rfl, iteF ?_⟩
    have e1 : decide ((1 : Int) ≤ ((ns.map V.int).length : Int)) = true := decide_eq_true (by rw [List.length_map]; omega)
    have e2 : decide (((ns.map V.int).length : Int) ≤ m) = true := decide_eq_true (by rw [List.length_map]; omega)
    refine ⟨.ref a, rfl, a, _, rfl, .inl hL.sq, _, _, rfl, rfl, _, rfl, itP e1 ⟨.int m, rfl, _, _, rfl, rfl, _, rfl, itN (by rw [e2]; decide) ?_⟩⟩
    -- the numbers
    refine ⟨.ref a, rfl, a, rfl, ⟨_, hL.sq⟩, fun D hD => lc_list (K := K) (a := a) (xs := ns.map V.int)
      (fun i H' => Same H H' ∧ H' D = some (.lst ((List.replicate i true).map V.bl))) ⟨same_new hD, upd_same⟩ (fun i H' _ h => (hL.mono h.1).sq) (fun i x H' hx h => ?_) (fun H' h => ?_)⟩
    · obtain ⟨n, rfl, hn⟩ := row_item hx
      have hil := (List.getElem?_eq_some_iff.mp hn).1
      obtain ⟨h5, h6⟩ := h3 n (List.mem_of_getElem? hn)
      refine ⟨rfl, iteT (B := True) ⟨.int n, rfl, _, true, rfl, whole_int n, true, rfl, iteT ⟨.int n, rfl, _, _, rfl, rfl, _, rfl, itP (decide_eq_true h5) ⟨.int g, rfl, _, _, rfl, rfl, ?_⟩⟩⟩⟩
      refine ⟨_, h.2, small1000 (by rw [List.length_map, List.length_replicate]; omega), ⟨fun b o e => ?_, ?_⟩⟩
      · rw [upd_ne (ne_of_none e hD)]
        exact h.1 b o e
      · have e6 : V.bl (decide (n ≤ g)) = V.bl true := by rw [decide_eq_true h6]
        rw [upd_same, List.replicate_succ', List.map_append]
        exact congrArg (fun z => some (HO.lst (_ ++ [z]))) e6
    · refine ⟨D, List.replicate ns.length true, rfl, SqL.of (by rw [h.2, List.length_map]), _, rfl, itN (by simp) (q H' h.1)⟩
end
end EG

/-! evenings_of, behind. -/
namespace EG
open PySem L2
section
variable {P : Program} {w : World} {K : PySem.W.Frag} {mg : Str → Option Value} {base : Heap}
/-! ### evenings_of -/
def sp_evenings_of (K : PySem.W.Frag) : Sp := fun vs H Q _ => ∃ (a : Addr) (ns : List Int), vs = [.ref a] ∧ SqL K H a (ns.map V.int) ∧ ns.length ≤ 12 ∧
  ∀ H' p ws, Same H H' → H p = none → H' p = some (.lst ws) → Prs H' ws (evs ns) → Q (.ref p) H'
theorem ok_evenings_of {f : Addr} {fd : FuncData} (F : Fun K "evenings_of" "evenings_of" s_evenings_of f fd) (B : Blt mg) : FnOk P w K mg base CX0 1 f fd ["row"] (sp_evenings_of K) := by
  refine F.ok sc_evenings_of (fun vs H Q E h => ?_) (fun cdv A outer s H vs Q E hr h => ?_)
  · obtain ⟨a, ns, rfl, _⟩ := h
    rfl
  · obtain ⟨a, ns, rfl, hS, hl, q⟩ := h
    refine ⟨_, pss_cons (ps_set (i := 1) sc_evenings_of.nd rfl (.inl rfl) (pe_lst pa_nil))
      (pss_cons (ps_for PassesOwn.never rfl (pi_range1 (by rfl) B.range (pa_cons (pe_callB call_len_seq (by rfl) B.len PySem.boot_len (pa_cons (pv 0) pa_nil)) pa_nil)) (pg_name (i := 2) sc_evenings_of.nd rfl (.inl rfl))
        (pss_one (ps_for PassesOwn.never rfl (pi_range2 (by rfl) B.range (pa_cons (pe_op op_add (pv 2) pe_int) (pa_cons (pe_callB call_len_seq (by rfl) B.len PySem.boot_len (pa_cons (pv 0) pa_nil)) pa_nil))) (pg_name (i := 3) sc_evenings_of.nd rfl (.inl rfl))
          (pss_one (ps_if (PW.pt (pw_and (pt_cmpR op_ne (pe_ix ix_list (pv 0) (pv 2) (fun _ _ => rfl)) (pe_ix ix_list (pv 0) (pv 3) (fun _ _ => rfl)) (nomark _))
              (pw_and1 (pt_cmpR op_eq (pe_op op_mod (pe_op op_add (pe_ix ix_list (pv 0) (pv 2) (fun _ _ => rfl)) (pe_ix ix_list (pv 0) (pv 3) (fun _ _ => rfl))) pe_int) pe_int (nomark _)))))
            (pss_one (ps_expr (pe_bm PySem.F.plainAttrs_list PySem.F.slot_list_append PySem.F.type_list_append mt_append (pv 1) (pa_cons (pe_tup (pa_cons (pv 2) (pa_cons (pv 3) pa_nil))) pa_nil))))
            pss_nil)))))
      (pss_one (ps_ret (pv 1)))), ?_⟩
    refine ⟨Nat.zero_le _, fun o ho => ?_⟩
    have s0 : Same H (upd H o (.lst [])) := same_new ho
    have en : (((ns.map V.int).length : Int)).toNat = ns.length := by rw [List.length_map]; omega
    refine ⟨.ref a, rfl, a, _, rfl, .inl (s0.seq hS), _, rfl, by rw [List.length_map]; omega, by rw [List.length_map]; omega, for_range
      (fun i σ H' => ∃ y2 y3 ws, σ = [some (.ref a), some (.ref o), y2, y3] ∧ Same H H' ∧ H' o = some (.lst ws) ∧ Prs H' ws (evN ns i))
      ⟨none, none, [], rfl, s0, upd_same, .nil⟩ (fun i σ H1 hi h => ?_) (fun σ H1 h => ?_)⟩
    · obtain ⟨y2, y3, ws, rfl, s1, h1, r1⟩ := h
      rw [en] at hi
      have ei : (((ns.map V.int).length : Int) - (0 + (i : Int) + 1)).toNat = ns.length - (i + 1) := by rw [List.length_map]; omega
      refine ⟨.int (0 + (i : Int)), rfl, _, _, rfl, rfl, .ref a, rfl, a, _, rfl, .inl (s1.seq hS), _, _, rfl, ⟨by omega, by omega, by rw [List.length_map]; omega, by rw [List.length_map]; omega⟩, for_range
        (fun k σ H' => ∃ y3 ws, σ = [some (.ref a), some (.ref o), some (.int (0 + (i : Int))), y3] ∧ Same H H' ∧ H' o = some (.lst ws) ∧ Prs H' ws (evN ns i ++ evI ns i k))
        ⟨y3, ws, rfl, s1, h1, by simpa [evI] using r1⟩ (fun k σ H2 hk h => ?_) (fun σ H2 h => ?_)⟩
      · obtain ⟨y4, ws, rfl, s2, h2, r2⟩ := h
        rw [ei] at hk
        have hA := s2.seq hS
        have hj : i + 1 + k < ns.length := by omega
        have g1 : atI (ns.map V.int) (0 + (i : Int)) = some (.int (ns.getD i 0)) := at_of (by omega) (row_get hi)
        have g2 : atI (ns.map V.int) (0 + (i : Int) + 1 + (k : Int)) = some (.int (ns.getD (i + 1 + k) 0)) := at_of (j := i + 1 + k) (by omega) (row_get hj)
        have hlen : ws.length < sizeLine := by
          rw [r2.length, List.length_append]
          have l1 := evN_len ns i
          have l2 := evI_len ns i k
          have l3 : i * ns.length ≤ 12 * 12 := Nat.mul_le_mul (by omega) (by omega)
          exact small1000 (by omega)
        refine ⟨.ref a, rfl, .int (0 + (i : Int)), rfl, a, _, _, _, rfl, rfl, hA, g1, .ref a, rfl, .int (0 + (i : Int) + 1 + (k : Int)), rfl, a, _, _, _, rfl, rfl, hA, g2, rfl, _, rfl, ?_⟩
        rw [dec_int]
        by_cases c1 : ns.getD i 0 = ns.getD (i + 1 + k) 0
        · refine itN (by rw [decide_eq_true c1]; decide) (iteF ?_)
          refine ⟨_, ws, rfl, s2, h2, ?_⟩
          rw [evI_succ, if_neg (by unfold goodP; rw [decide_eq_true c1]; simp), List.append_nil]
          exact r2
        · refine itP (by rw [decide_eq_false c1]; rfl) ?_
          refine ⟨.ref a, rfl, .int (0 + (i : Int)), rfl, a, _, _, _, rfl, rfl, hA, g1, .ref a, rfl, .int (0 + (i : Int) + 1 + (k : Int)), rfl, a, _, _, _, rfl, rfl, hA, g2, _, _, rfl, rfl, _, _, rfl, rfl, (by show (0 : Int) < 2; decide), rfl, _, rfl, ?_⟩
          rw [dec_int]
          by_cases c2 : (ns.getD i 0 + ns.getD (i + 1 + k) 0) % 2 = 0
          · refine itP (decide_eq_true c2) ?_
            refine ⟨.ref o, rfl, .inl ⟨rfl, _, SqL.of h2⟩, .int (0 + (i : Int)), rfl, .int (0 + (i : Int) + 1 + (k : Int)), rfl, (by show 2 ≤ sizeLine; decide), fun t ht => ?_⟩
            have st : Same H2 (upd H2 t (.tup [.int (0 + (i : Int)), .int (0 + (i : Int) + 1 + (k : Int))])) := same_new ht
            refine ⟨o, ws, _, rfl, rfl, st _ _ h2, hlen, ?_⟩
            have sT : TupS H2 (upd (upd H2 t (.tup [.int (0 + (i : Int)), .int (0 + (i : Int) + 1 + (k : Int))])) o (.lst (ws ++ [.ref t]))) := (Same.tups st).trans (tups_lst (st _ _ h2))
            refine ⟨_, _, rfl, fun b x e => ?_, upd_same, ?_⟩
            · rw [upd_ne (ne_of_none e ho)]
              exact st _ _ (s2 _ _ e)
            · rw [evI_succ, if_pos (by unfold goodP; rw [decide_eq_false c1, decide_eq_true c2]; rfl), ← List.append_assoc]
              refine prs_app (r2.mono sT) (.cons ⟨t, rfl, ?_⟩ .nil)
              have nt : t ≠ o := (ne_of_none h2 ht).symm
              rw [upd_ne nt, upd_same, show (0 : Int) + (i : Int) = ((i : Nat) : Int) by omega, show ((i : Nat) : Int) + 1 + (k : Int) = ((i + 1 + k : Nat) : Int) by omega]
          · refine itN (by rw [decide_eq_false c2]; decide) ?_
            refine ⟨_, ws, rfl, s2, h2, ?_⟩
            rw [evI_succ, if_neg (by unfold goodP; rw [decide_eq_false c2]; simp), List.append_nil]
            exact r2
      · obtain ⟨y4, ws, rfl, s2, h2, r2⟩ := h
        rw [ei] at r2
        exact ⟨_, _, ws, rfl, s2, h2, by rw [evN_succ]; exact r2⟩
    · obtain ⟨y2, y3, ws, rfl, s1, h1, r1⟩ := h
      rw [en] at r1
      exact ⟨.ref o, rfl, q H1 o ws s1 ho h1 r1⟩
/-! ### behind -/
def sp_behind (K : PySem.W.Frag) : Sp := fun vs H Q _ => ∃ (a e : Addr) (ns : List Int) (i j : Nat), vs = [.ref a, .ref e] ∧ SqL K H a (ns.map V.int) ∧ SqT K H e [.int (i : Int), .int (j : Int)] ∧ i < ns.length ∧ j < ns.length ∧ ns.length ≤ 12 ∧
  ∀ H' p, Same H H' → H p = none → Lst H' p (beh ns i j) → Q (.ref p) H'
theorem ok_behind {f : Addr} {fd : FuncData} (F : Fun K "behind" "behind" s_behind f fd) (B : Blt mg) : FnOk P w K mg base CX0 1 f fd ["row", "evening"] (sp_behind K) := by
  refine F.ok sc_behind (fun vs H Q E h => ?_) (fun cdv A outer s H vs Q E hr h => ?_)
  · obtain ⟨a, e, ns, i, j, rfl, _⟩ := h
    rfl
  · obtain ⟨a, e, ns, i, j, rfl, hS, hT, hi, hj, hl, q⟩ := h
    refine ⟨_, pss_cons (ps_asg (pv 1) (pg_tup rfl (pgs_cons (pg_name (i := 2) sc_behind.nd rfl (.inr rfl)) (pgs_cons (pg_name (i := 3) sc_behind.nd rfl (.inr rfl)) pgs_nil))))
      (pss_cons (ps_set (i := 4) sc_behind.nd rfl (.inr rfl) (pe_op op_fdiv (pe_op op_add (pe_ix ix_list (pv 0) (pv 2) (fun _ _ => rfl)) (pe_ix ix_list (pv 0) (pv 3) (fun _ _ => rfl))) pe_int))
      (pss_one (ps_ret (pe_lc (own := [("place", 5), ("number", 6)]) (g := gTup K 2 (gCons (gName 5) (gCons (gName 6) gNil))) (tt := tYes) rfl sc_behind.nd (pi_enum (by rfl) B.enum (pa_cons (pv 0) pa_nil)) (blkOk_by (N := ["row", "evening", "one", "other", "half", "place", "number"]) (sc := defScope s_behind) (by decide +kernel))
        (fun _ _ _ _ _ => pg_tup rfl (pgs_cons (pg_name (i := 5) sc_behind.nd rfl (.inl rfl)) (pgs_cons (pg_name (i := 6) sc_behind.nd rfl (.inl rfl)) pgs_nil))) (fun _ _ _ _ _ => pts_nil)
        (fun _ _ _ _ _ => pe_ifExp (pt_cmpR (r := rIn K false) op_in_seq (pv 5) (pe_tup (pa_cons (pv 2) (pa_cons (pv 3) pa_nil))) (by rfl)) (pv 4) (pv 6)))))), ?_⟩
    have g1 : atI (ns.map V.int) (i : Int) = some (.int (ns.getD i 0)) := atI_nat (row_get hi)
    have g2 : atI (ns.map V.int) (j : Int) = some (.int (ns.getD j 0)) := atI_nat (row_get hj)
    refine ⟨.ref e, rfl, e, _, rfl, hT, rfl, _, _, rfl, _, _, rfl, rfl, ?_⟩
    refine ⟨.ref a, rfl, .int (i : Int), rfl, a, _, _, _, rfl, rfl, hS, g1, .ref a, rfl, .int (j : Int), rfl, a, _, _, _, rfl, rfl, hS, g2, _, _, rfl, rfl, _, _, rfl, rfl, ⟨by decide, by decide⟩, ?_⟩
    refine ⟨.ref a, rfl, a, _, rfl, hS, fun D hD => ?_⟩
    have s0 : Same H (upd H D (.lst [])) := same_new hD
    refine ⟨fun k m H' => k + m = ns.length ∧ Same H H' ∧ H' D = some (.lst (((beh ns i j).take k).map V.int)), ⟨ns.length, by omega, s0, upd_same⟩, fun k m H1 h => ?_⟩
    obtain ⟨hk, s1, h1⟩ := h
    by_cases hlt : k < ns.length
    · refine .inr ⟨⟨_, _, s1.seq hS, row_get hlt⟩, fun H' => Same H H' ∧ H' D = some (.lst (((beh ns i j).take (k + 1)).map V.int)), fun H' h => ⟨m - 1, by omega, by omega, h.1, h.2⟩, fun x H' hy => ?_⟩
      obtain ⟨T, y, rfl, nT, rfl, fy⟩ := hy
      have ey : y = .int (ns.getD k 0) := Option.some.inj ((fy _ (s1.seq hS)).symm.trans (row_get hlt))
      subst ey
      have s2 : Same H1 (upd H1 T (.tup [.int (k : Nat), .int (ns.getD k 0)])) := same_new nT
      refine ⟨T, _, rfl, SqT.of upd_same, rfl, _, _, rfl, _, _, rfl, rfl, rfl, iteT (B := True) ?_⟩
      refine ⟨.int (k : Nat), rfl, .int (i : Int), rfl, .int (j : Int), rfl, (by show 2 ≤ sizeLine; decide), fun t ht => ?_⟩
      have s3 : Same (upd H1 T (.tup [.int (k : Nat), .int (ns.getD k 0)])) (upd (upd H1 T (.tup [.int (k : Nat), .int (ns.getD k 0)])) t (.tup [.int (i : Int), .int (j : Int)])) := same_new ht
      have s4 := (s1.trans s2).trans s3
      have hD4 := (s2.trans s3) _ _ h1
      have lenD : (((beh ns i j).take k).map V.int).length < sizeLine := by
        rw [List.length_map, List.length_take, beh_length]
        exact small1000 (by omega)
      have eg := beh_get ns i j k hlt
      have fin : ∀ z : V, z = .int (if k = i ∨ k = j then half ns i j else ns.getD k 0) → Same H (upd (upd (upd H1 T (.tup [.int (k : Nat), .int (ns.getD k 0)])) t (.tup [.int (i : Int), .int (j : Int)])) D (.lst (((beh ns i j).take k).map V.int ++ [z]))) ∧
          (upd (upd (upd H1 T (.tup [.int (k : Nat), .int (ns.getD k 0)])) t (.tup [.int (i : Int), .int (j : Int)])) D (.lst (((beh ns i j).take k).map V.int ++ [z]))) D = some (.lst (((beh ns i j).take (k + 1)).map V.int)) := fun z ez => by
        refine ⟨fun b o e => ?_, ?_⟩
        · rw [upd_ne (ne_of_none e hD)]
          exact s4 _ _ e
        · rw [upd_same, List.take_add_one, eg, List.map_append, ez]
          rfl
      refine ⟨t, _, rfl, .inr (SqT.of upd_same), rfl, rfl, _, rfl, ?_⟩
      have ein : (if false = true then !inV (V.int (k : Nat)) [V.int (i : Int), V.int (j : Int)] else inV (V.int (k : Nat)) [V.int (i : Int), V.int (j : Int)]) = decide (k = i ∨ k = j) := by
        rw [if_neg Bool.false_ne_true]
        unfold inV eqV
        simp only [List.any_cons, List.any_nil, Bool.or_false]
        by_cases c1 : k = i
        · subst c1; simp
        · by_cases c2 : k = j
          · subst c2; simp
          · have q1 : ((i : Int) == ((k : Nat) : Int)) = false := beq_eq_false_iff_ne.mpr (by omega)
            have q2 : ((j : Int) == ((k : Nat) : Int)) = false := beq_eq_false_iff_ne.mpr (by omega)
            rw [q1, q2]; simp [c1, c2]
      rw [ein]
      by_cases c : k = i ∨ k = j
      · refine itP (decide_eq_true c) ⟨_, rfl, _, hD4, lenD, fin _ ?_⟩
        rw [if_pos c]
        rfl
      · refine itN (by rw [decide_eq_false c]; decide) ⟨_, rfl, _, hD4, lenD, fin _ ?_⟩
        rw [if_neg c]
    · refine .inl ⟨⟨_, s1.seq hS, by rw [List.length_map]; omega⟩, ?_⟩
      rw [List.take_of_length_le (by rw [beh_length]; omega)] at h1
      exact q H1 D s1 hD h1
end
end EG

/-! evenings, settled. -/
namespace EG
open PySem L2
section
variable {P : Program} {w : World} {K : PySem.W.Frag} {mg : Str → Option Value} {base : Heap}
/-! ### evenings, settled -/
def sp_evenings : Sp := fun vs H Q _ => ∃ (a : Addr) (ns : List Int), vs = [.ref a] ∧ Lst H a ns ∧ RowOk ns 12 1000000 ∧
  ∀ H' p ws, Same H H' → H p = none → H' p = some (.lst ws) → Prs H' ws (evs ns) → Q (.ref p) H'
theorem ok_evenings {f : Addr} {fd : FuncData} {t1 t2 : Tok} (F : Fun K "evenings" "evenings" s_evenings f fd) (cC : Cal CX0 P w K mg base "check_row" ["row", "most", "greatest"] 2 sp_check_row)
    (cE : Cal CX0 P w K mg base "evenings_of" ["row"] 1 (sp_evenings_of K)) (g1 : mg "MOST" = some (.int 12 t1)) (g2 : mg "GREATEST" = some (.int 1000000 t2)) : FnOk P w K mg base CX0 3 f fd ["row"] sp_evenings := by
  refine F.ok sc_evenings (fun vs H Q E h => ?_) (fun cdv A outer s H vs Q E hr h => ?_)
  · obtain ⟨a, ns, rfl, _⟩ := h
    rfl
  · obtain ⟨a, ns, rfl, hL, ok, q⟩ := h
    refine ⟨_, pss_cons (ps_expr (pe_cal cC hr (by rfl) (pa_cons (pv 0) (pa_cons (pe_glob (v := .int 12) (by rfl) g1 ⟨_, rfl⟩) (pa_cons (pe_glob (v := .int 1000000) (by rfl) g2 ⟨_, rfl⟩) pa_nil)))))
      (pss_one (ps_ret (pe_cal cE hr (by rfl) (pa_cons (pv 0) pa_nil)))), ?_⟩
    have l12 := ok.len12
    refine ⟨.ref a, rfl, a, ns, 12, 1000000, rfl, hL, by omega, ok, fun H1 s1 => ?_⟩
    exact ⟨.ref a, rfl, a, ns, rfl, (hL.mono s1).sq, l12, fun H2 p ws s2 hp e r => q H2 p ws (s1.trans s2) (s1.free hp) e r⟩
def sp_settled : Sp := fun vs H Q _ => ∃ (a : Addr) (ns : List Int), vs = [.ref a] ∧ Lst H a ns ∧ RowOk ns 12 1000000 ∧
  ∀ H', Same H H' → Q (.bl (decide (evs ns = []))) H'
theorem ok_settled {f : Addr} {fd : FuncData} {t1 t2 : Tok} (F : Fun K "settled" "settled" s_settled f fd) (cC : Cal CX0 P w K mg base "check_row" ["row", "most", "greatest"] 2 sp_check_row)
    (cE : Cal CX0 P w K mg base "evenings_of" ["row"] 1 (sp_evenings_of K)) (g1 : mg "MOST" = some (.int 12 t1)) (g2 : mg "GREATEST" = some (.int 1000000 t2)) : FnOk P w K mg base CX0 3 f fd ["row"] sp_settled := by
  refine F.ok sc_settled (fun vs H Q E h => ?_) (fun cdv A outer s H vs Q E hr h => ?_)
  · obtain ⟨a, ns, rfl, _⟩ := h
    rfl
  · obtain ⟨a, ns, rfl, hL, ok, q⟩ := h
    refine ⟨_, pss_cons (ps_expr (pe_cal cC hr (by rfl) (pa_cons (pv 0) (pa_cons (pe_glob (v := .int 12) (by rfl) g1 ⟨_, rfl⟩) (pa_cons (pe_glob (v := .int 1000000) (by rfl) g2 ⟨_, rfl⟩) pa_nil)))))
      (pss_one (ps_ret (pe_cmpR (op_eqD hr.units) (pe_cal cE hr (by rfl) (pa_cons (pv 0) pa_nil)) (pe_lst pa_nil) (nomark _)))), ?_⟩
    have l12 := ok.len12
    refine ⟨.ref a, rfl, a, ns, 12, 1000000, rfl, hL, by omega, ok, fun H1 s1 => ?_⟩
    refine ⟨.ref a, rfl, a, ns, rfl, (hL.mono s1).sq, l12, fun H2 p ws s2 hp e r => ?_⟩
    refine ⟨Nat.zero_le _, fun z hz => ?_⟩
    have s3 : Same H2 (upd H2 z (.lst [])) := same_new hz
    refine ⟨prsD (evs ns), prsD [], dp_prs (SqL.of (s3 _ _ e)) (r.mono (Same.tups s3)), dp_prs (SqL.of upd_same) .nil, shaped_prs _, shaped_prs _, ?_⟩
    rw [eqv_prs]
    exact q _ ((s1.trans s2).trans s3)
end
end EG

/-! check_evening, evened, fall: of an evening that can be. -/
namespace EG
open PySem L2
section
variable {P : Program} {w : World} {K : PySem.W.Frag} {mg : Str → Option Value} {base : Heap}
theorem tup_list {H : Hp} {e : Addr} {xs : List V} (h : H e = some (.tup xs)) {K : PySem.W.Frag} : SqT K H e xs := SqT.of h
def sp_check_evening : Sp := fun vs H Q _ => ∃ (a e : Addr) (ns : List Int) (p : Pr), vs = [.ref a, .ref e] ∧ Lst H a ns ∧ RowOk ns 12 1000000 ∧ H e = some (.tup [.int p.1, .int p.2]) ∧ p ∈ evs ns ∧ ∀ H', Same H H' → Q .non H'
theorem ok_check_evening {f : Addr} {fd : FuncData} {t1 t2 : Tok} (F : Fun K "check_evening" "check_evening" s_check_evening f fd) (B : Blt mg) (cW : Cal CX0 P w K mg base "is_whole" ["thing"] 1 (sp_is_whole K))
    (cC : Cal CX0 P w K mg base "check_row" ["row", "most", "greatest"] 2 sp_check_row)
    (cE : Cal CX0 P w K mg base "evenings_of" ["row"] 1 (sp_evenings_of K)) (g1 : mg "MOST" = some (.int 12 t1)) (g2 : mg "GREATEST" = some (.int 1000000 t2)) : FnOk P w K mg base CX0 3 f fd ["row", "evening"] sp_check_evening := by
  refine F.ok sc_check_evening (fun vs H Q E h => ?_) (fun cdv A outer s H vs Q E hr h => ?_)
  · obtain ⟨a, e, ns, p, rfl, _⟩ := h
    rfl
  · obtain ⟨a, e, ns, p, rfl, hL, ok, hT, hp, q⟩ := h
    refine ⟨_, pss_cons (ps_expr (pe_cal cC hr (by rfl) (pa_cons (pv 0) (pa_cons (pe_glob (v := .int 12) (by rfl) g1 ⟨_, rfl⟩) (pa_cons (pe_glob (v := .int 1000000) (by rfl) g2 ⟨_, rfl⟩) pa_nil)))))
      (pss_cons (ps_if (PW.pt (pw_or (pt_not (pt_val (pe_callB call_isi (by rfl) B.isi PyProof.Rows.boot_isinstance (pa_cons (pv 1) (pa_cons (pe_bltn (v := .ty "tuple") (by rfl) B.tuple PyProof.Rows.boot_tuple rfl) pa_nil)))))
          (pw_or (pt_cmpR op_ne (pe_callB call_len_seq (by rfl) B.len PySem.boot_len (pa_cons (pv 1) pa_nil)) pe_int (nomark _))
          (pw_or1 (pt_not (pt_val (pe_callB (cr_all rfl) (by rfl) B.all PyProof.Rows.boot_all (pa_cons
            (pe_lc (own := [("one", 2)]) (g := gName 2) (tt := tYes) rfl sc_check_evening.nd (pi_tup (pv 1)) (blkOk_by (N := ["row", "evening", "one"]) (sc := defScope s_check_evening) (by decide +kernel))
              (fun _ _ _ _ _ => pg_name (i := 2) sc_check_evening.nd rfl (Or.inl rfl)) (fun _ _ _ _ _ => pts_nil)
              (fun _ _ _ _ _ => pe_cal cW hr (by rfl) (pa_cons (pv 2) pa_nil))) pa_nil))))))))
        (pss_one ps_never) pss_nil)
      (pss_one (ps_if (pt_cmpR (op_notInD (room65 hr)) (pv 1) (pe_cal cE hr (by rfl) (pa_cons (pv 0) pa_nil)) (by rfl))
        (pss_one ps_never) pss_nil))), ?_⟩
    have l12 := ok.len12
    refine ⟨.ref a, rfl, a, ns, 12, 1000000, rfl, hL, by omega, ok, fun H1 s1 => ?_⟩
    have hT1 := s1 _ _ hT
    refine ⟨.ref e, rfl, _, _, _, _, true, rfl, .ty _, .base (.tup hT1), kit_ty (by decide +kernel), true, rfl, iteF ?_⟩
    refine ⟨.ref e, rfl, e, _, rfl, .inr (SqT.of hT1), rfl, _, rfl, iteNS rfl ?_⟩
    refine ⟨.ref e, rfl, e, rfl, ⟨_, SqT.of hT1⟩, fun D hD => lc_tup (K := K) (a := e) (xs := [.int p.1, .int p.2])
      (fun i H' => Same H1 H' ∧ H' D = some (.lst ((List.replicate i true).map V.bl))) ⟨same_new hD, upd_same⟩ (fun i H' _ h => SqT.of (h.1 _ _ hT1)) (fun i x H' hx h => ?_) (fun H' h => ?_)⟩
    · have hil := (List.getElem?_eq_some_iff.mp hx).1
      obtain ⟨n, rfl⟩ : ∃ n, x = .int n := by
        have hm := List.mem_of_getElem? hx
        rcases List.mem_cons.mp hm with e | hm
        · exact ⟨_, e⟩
        · exact ⟨_, List.mem_singleton.mp hm⟩
      refine ⟨rfl, iteT (B := True) ⟨.int n, rfl, _, true, rfl, whole_int n, ?_⟩⟩
      refine ⟨_, h.2, small1000 (by rw [List.length_map, List.length_replicate]; show i ≤ 1000; simp at hil; omega), ⟨fun b o e => ?_, ?_⟩⟩
      · rw [upd_ne (ne_of_none e hD)]
        exact h.1 b o e
      · rw [upd_same, List.replicate_succ', List.map_append]
        rfl
    · refine ⟨D, List.replicate 2 true, rfl, SqL.of h.2, true, rfl, iteF ?_⟩
      refine ⟨.ref e, rfl, .ref a, rfl, a, ns, rfl, ((hL.mono s1).mono h.1).sq, l12, fun H2 o ws s2 ho e1 r => ?_⟩
      refine ⟨prD p, (evs ns).map prD, dp_prT (SqT.of (s2 _ _ (h.1 _ _ hT1))), dp_prs (SqL.of e1) r, shaped_pr _, shaped_prs _, _, rfl, ?_⟩
      rw [any_prs, decide_eq_true hp]
      exact iteF (q H2 ((s1.trans h.1).trans s2))
def sp_evened : Sp := fun vs H Q _ => ∃ (a e : Addr) (ns : List Int) (p : Pr), vs = [.ref a, .ref e] ∧ Lst H a ns ∧ RowOk ns 12 1000000 ∧ H e = some (.tup [.int p.1, .int p.2]) ∧ p ∈ evs ns ∧
  ∀ H' o, Same H H' → H o = none → Lst H' o (behP ns p) → Q (.ref o) H'
theorem ok_evened {f : Addr} {fd : FuncData} (F : Fun K "evened" "evened" s_evened f fd) (cC : Cal CX0 P w K mg base "check_evening" ["row", "evening"] 3 sp_check_evening)
    (cB : Cal CX0 P w K mg base "behind" ["row", "evening"] 1 (sp_behind K)) : FnOk P w K mg base CX0 4 f fd ["row", "evening"] sp_evened := by
  refine F.ok sc_evened (fun vs H Q E h => ?_) (fun cdv A outer s H vs Q E hr h => ?_)
  · obtain ⟨a, e, ns, p, rfl, _⟩ := h
    rfl
  · obtain ⟨a, e, ns, p, rfl, hL, ok, hT, hp, q⟩ := h
    refine ⟨_, pss_cons (ps_expr (pe_cal cC hr (by rfl) (pa_cons (pv 0) (pa_cons (pv 1) pa_nil)))) (pss_one (ps_ret (pe_cal cB hr (by rfl) (pa_cons (pv 0) (pa_cons (pv 1) pa_nil))))), ?_⟩
    refine ⟨.ref a, rfl, .ref e, rfl, a, e, ns, p, rfl, hL, ok, hT, hp, fun H1 s1 => ?_⟩
    obtain ⟨i, j, ep, hij, hj, hg⟩ := mem_evs.mp hp
    subst ep
    have l12 := ok.len12
    refine ⟨.ref a, rfl, .ref e, rfl, a, e, ns, i, j, rfl, (hL.mono s1).sq, SqT.of (s1 _ _ hT), by omega, hj, l12, fun H2 o s2 ho h2 => ?_⟩
    exact q H2 o (s1.trans s2) (s1.free ho) h2
def sp_fall : Sp := fun vs H Q _ => ∃ (a e : Addr) (ns : List Int) (p : Pr), vs = [.ref a, .ref e] ∧ Lst H a ns ∧ RowOk ns 12 1000000 ∧ H e = some (.tup [.int p.1, .int p.2]) ∧ p ∈ evs ns ∧ ∀ H', Same H H' → Q (.int (fallP ns p)) H'
theorem ok_fall {f : Addr} {fd : FuncData} (F : Fun K "fall" "fall" s_fall f fd) (cC : Cal CX0 P w K mg base "check_evening" ["row", "evening"] 3 sp_check_evening) : FnOk P w K mg base CX0 4 f fd ["row", "evening"] sp_fall := by
  refine F.ok sc_fall (fun vs H Q E h => ?_) (fun cdv A outer s H vs Q E hr h => ?_)
  · obtain ⟨a, e, ns, p, rfl, _⟩ := h
    rfl
  · obtain ⟨a, e, ns, p, rfl, hL, ok, hT, hp, q⟩ := h
    refine ⟨_, pss_cons (ps_expr (pe_cal cC hr (by rfl) (pa_cons (pv 0) (pa_cons (pv 1) pa_nil))))
      (pss_cons (ps_set (i := 2) sc_fall.nd rfl (.inl rfl) (pe_op op_sub (pe_ix ix_list (pv 0) (pe_ix ix_tup (pv 1) pe_int (fun _ _ => rfl)) (fun _ _ => rfl)) (pe_ix ix_list (pv 0) (pe_ix ix_tup (pv 1) pe_int (fun _ _ => rfl)) (fun _ _ => rfl))))
      (pss_one (ps_ret (pe_op op_fdiv (pe_op op_mul (pv 2) (pv 2)) pe_int)))), ?_⟩
    refine ⟨.ref a, rfl, .ref e, rfl, a, e, ns, p, rfl, hL, ok, hT, hp, fun H1 s1 => ?_⟩
    obtain ⟨i, j, ep, hij, hj, hg⟩ := mem_evs.mp hp
    subst ep
    have hT1 := s1 _ _ hT
    have hS := (hL.mono s1).sq (K := K)
    have hi : i < ns.length := by omega
    have a1 := ok.getD hi
    have a2 := ok.getD hj
    refine ⟨.ref a, rfl, .ref e, rfl, e, _, 0, .int (i : Int), rfl, rfl, SqT.of hT1, rfl, a, _, _, _, rfl, rfl, hS, atI_nat (row_get hi), .ref a, rfl, .ref e, rfl, e, _, 1, .int (j : Int), rfl, rfl, SqT.of hT1, rfl, a, _, _, _, rfl, rfl, hS, atI_nat (row_get hj), _, _, rfl, rfl, ?_⟩
    refine ⟨_, rfl, _, rfl, _, _, rfl, rfl, .inl ⟨by omega, by omega⟩, _, _, rfl, rfl, ⟨by decide, by decide⟩, ?_⟩
    exact q H1 s1
end
end EG

/-! Squares, unlike numbers, ranges with a step. -/
namespace EG
open PySem L2
theorem rgC_pos {len c : Int} (h1 : 1 ≤ c) (h2 : c ≤ 1000) (h3 : 0 ≤ len) (h4 : len ≤ 1000) : ∃ n : Nat, RgC 0 len c n ∧ ∀ i : Nat, i < n → (0 : Int) ≤ (i : Int) * c ∧ (i : Int) * c < len := by
  have e := PyProof.Rows.rangeSize_toNat 0 len c
  have l := PyProof.Rows.rangeSize_toNat_le 0 len c
  refine ⟨(Builtin.Range.rangeSize 0 len c).toNat, ⟨by omega, by omega, ?_, e⟩, fun i hi => PyProof.Rows.start_inside h1 h3 (by omega) (by omega)⟩
  unfold Builtin.Range.small
  rw [e]
  simp only [Builtin.Range.rangeFitsLong, Bool.and_eq_true, Bool.or_eq_true, decide_eq_true_eq, beq_iff_eq, show c > 0 by omega, if_true]
  omega
/-- the sum of the squares -/
def sq (ns : List Int) : Int := (ns.map fun x => x * x).sum
theorem map_getD {f : Int → Int} {ns : List Int} {i : Nat} (h : i < ns.length) : (ns.map f)[i]? = some (f (ns.getD i 0)) := by
  rw [List.getElem?_map, List.getElem?_eq_getElem h, List.getD_eq_getElem?_getD, List.getElem?_eq_getElem h]; rfl
theorem sq_beh {ns : List Int} {i j : Nat} (hi : i < ns.length) (hj : j < ns.length) (hij : i ≠ j) :
    sq (beh ns i j) = sq ns - ns.getD i 0 * ns.getD i 0 - ns.getD j 0 * ns.getD j 0 + half ns i j * half ns i j + half ns i j * half ns i j := by
  unfold sq
  rw [← beh_set, List.map_set, List.map_set]
  rw [sum_set (z := ns.getD j 0 * ns.getD j 0), sum_set (map_getD hi)]
  · omega
  · rw [List.getElem?_set_ne hij]
    exact map_getD hj
theorem sum_beh {ns : List Int} {i j : Nat} (hi : i < ns.length) (hj : j < ns.length) (hij : i ≠ j) (h2 : (ns.getD i 0 + ns.getD j 0) % 2 = 0) : (beh ns i j).sum = ns.sum := by
  have g : ∀ k, k < ns.length → ns[k]? = some (ns.getD k 0) := fun k h => by rw [List.getElem?_eq_getElem h, List.getD_eq_getElem?_getD, List.getElem?_eq_getElem h]; rfl
  rw [← beh_set, sum_set (z := ns.getD j 0), sum_set (g i hi)]
  · unfold half; omega
  · rw [List.getElem?_set_ne hij]
    exact g j hj
theorem goodP_iff {ns : List Int} {i j : Nat} : goodP ns i j = true ↔ ns.getD i 0 ≠ ns.getD j 0 ∧ (ns.getD i 0 + ns.getD j 0) % 2 = 0 := by
  unfold goodP
  rw [Bool.and_eq_true, decide_eq_true_eq, Bool.not_eq_true', decide_eq_false_iff_not]
theorem sq_fall {ns : List Int} {p : Pr} (hp : p ∈ evs ns) : fallP ns p = sq ns - sq (behP ns p) ∧ 1 ≤ fallP ns p := by
  obtain ⟨i, j, rfl, hij, hj, hg⟩ := mem_evs.mp hp
  obtain ⟨h1, h2⟩ := goodP_iff.mp hg
  have e : sq (behP ns ((i : Int), (j : Int))) = _ := sq_beh (ns := ns) (i := i) (j := j) (by omega) hj (by omega)
  rw [e]
  show (ns.getD i 0 - ns.getD j 0) * (ns.getD i 0 - ns.getD j 0) / 2 = _ ∧ 1 ≤ (ns.getD i 0 - ns.getD j 0) * (ns.getD i 0 - ns.getD j 0) / 2
  obtain ⟨h, eh⟩ : ∃ h, ns.getD i 0 + ns.getD j 0 = 2 * h := ⟨(ns.getD i 0 + ns.getD j 0) / 2, by omega⟩
  have ehf : half ns i j = h := by unfold half; omega
  rw [ehf]
  generalize ns.getD i 0 = a at *
  generalize ns.getD j 0 = b at *
  have eb : b = 2 * h - a := by omega
  subst eb
  obtain ⟨d, ed⟩ : ∃ d, a = h + d := ⟨a - h, by omega⟩
  subst ed
  have e1 : (h + d - (2 * h - (h + d))) * (h + d - (2 * h - (h + d))) = 2 * (2 * (d * d)) := by
    rw [show h + d - (2 * h - (h + d)) = 2 * d by omega, Int.mul_assoc, Int.mul_left_comm d 2 d]
  have e2 : (h + d) * (h + d) = h * h + 2 * (h * d) + d * d := by
    rw [Int.add_mul, Int.mul_add, Int.mul_add, Int.mul_comm d h]; omega
  have e3 : (2 * h - (h + d)) * (2 * h - (h + d)) = h * h - 2 * (h * d) + d * d := by
    rw [show 2 * h - (h + d) = h - d by omega, Int.sub_mul, Int.mul_sub, Int.mul_sub, Int.mul_comm d h]; omega
  have d0 : d ≠ 0 := by
    intro z; subst z; omega
  have dp : 0 < d * d := by
    rcases Int.lt_or_gt_of_ne d0 with z | z
    · exact Int.mul_pos_of_neg_of_neg z z
    · exact Int.mul_pos z z
  rw [e1, e2, e3]
  omega
theorem RowOk.beh {ns : List Int} {m g : Int} (h : RowOk ns m g) {p : Pr} (hp : p ∈ evs ns) : RowOk (behP ns p) m g := by
  obtain ⟨i, j, rfl, hij, hj, hg⟩ := mem_evs.mp hp
  have a1 := h.getD (i := i) (by omega)
  have a2 := h.getD hj
  refine ⟨by show 1 ≤ (EG.beh ns i j).length; rw [beh_length]; exact h.1, by show ((EG.beh ns i j).length : Int) ≤ m; rw [beh_length]; exact h.2.1, fun x hx => ?_⟩
  obtain ⟨k, hk⟩ := List.mem_iff_getElem?.mp (show x ∈ EG.beh ns i j from hx)
  have hkl : k < ns.length := by
    have := (List.getElem?_eq_some_iff.mp hk).1
    rw [beh_length] at this
    exact this
  rw [beh_get ns i j k hkl] at hk
  have e := Option.some.inj hk
  have a3 := h.getD hkl
  split at e
  · unfold half at e; omega
  · omega
/-! ### unlike numbers -/
theorem firstMet_map {val : Nat → Int} {f : Int → Int} {n : Nat} (h : ∀ i j, i < n → j < n → f (val i) = f (val j) → val i = val j) :
    ∀ i, i ≤ n → PyProof.Rows.firstMet (fun k => f (val k)) i = (PyProof.Rows.firstMet val i).map f
  | 0, _ => rfl
  | i + 1, hi => by
    have ih := firstMet_map h i (by omega)
    rw [PyProof.Rows.firstMet_succ, PyProof.Rows.firstMet_succ, ih]
    have e : ((PyProof.Rows.firstMet val i).map f).any (· == f (val i)) = (PyProof.Rows.firstMet val i).any (· == val i) := by
      rw [← ih, PyProof.Rows.firstMet_any, PyProof.Rows.firstMet_any]
      rw [Bool.eq_iff_iff, List.any_eq_true, List.any_eq_true]
      constructor
      · rintro ⟨x, hx, e⟩
        obtain ⟨k, hk, rfl⟩ := List.mem_map.mp hx
        have hk2 := List.mem_range.mp hk
        exact ⟨val k, List.mem_map.mpr ⟨k, hk, rfl⟩, beq_iff_eq.mpr (h k i (by omega) (by omega) (eq_of_beq e))⟩
      · rintro ⟨x, hx, e⟩
        obtain ⟨k, hk, rfl⟩ := List.mem_map.mp hx
        exact ⟨f (val k), List.mem_map.mpr ⟨k, hk, rfl⟩, beq_iff_eq.mpr (by rw [eq_of_beq e])⟩
    unfold PyProof.Rows.step_dedup
    rw [e]
    split
    · rfl
    · rw [List.map_append]; rfl
theorem dcount_rest {ns : List Int} (h : evs ns = []) : dcount (ns.map (· % 2)) = dcount ns := by
  have no : ∀ i j, i < j → j < ns.length → goodP ns i j = true → False := fun i j h1 h2 h3 => by
    have : ((i : Int), (j : Int)) ∈ evs ns := mem_evs.mpr ⟨i, j, rfl, h1, h2, h3⟩
    rw [h] at this
    cases this
  have inj : ∀ i j, i < ns.length → j < ns.length → (ns.getD i 0) % 2 = (ns.getD j 0) % 2 → ns.getD i 0 = ns.getD j 0 := fun i j hi hj e => by
    by_cases c : ns.getD i 0 = ns.getD j 0
    · exact c
    · rcases Nat.lt_trichotomy i j with l | l | l
      · exact (no i j l hj (goodP_iff.mpr ⟨c, by omega⟩)).elim
      · rw [l]
      · exact (no j i l hi (goodP_iff.mpr ⟨fun z => c z.symm, by omega⟩)).elim
  unfold dcount
  have e1 : (fun i => (ns.map (· % 2)).getD i 0) = fun i => (fun x : Int => x % 2) (ns.getD i 0) := by
    funext i
    rw [List.getD_eq_getElem?_getD, List.getD_eq_getElem?_getD, List.getElem?_map]
    cases ns[i]? <;> rfl
  rw [e1, List.length_map, firstMet_map (f := fun x => x % 2) (val := fun i => ns.getD i 0) inj ns.length (Nat.le_refl _), List.length_map]
/-! ### the row turned about -/
theorem rev_get {ns : List Int} {i : Nat} (h : i < ns.length) : ns.reverse.getD i 0 = ns.getD (ns.length - 1 - i) 0 := by
  rw [List.getD_eq_getElem?_getD, List.getD_eq_getElem?_getD, List.getElem?_reverse h]
theorem evs_rev_nil {ns : List Int} (h : evs ns = []) : evs ns.reverse = [] := by
  rw [List.eq_nil_iff_forall_not_mem]
  intro p hp
  obtain ⟨i, j, rfl, hij, hj, hg⟩ := mem_evs.mp hp
  rw [List.length_reverse] at hj
  obtain ⟨h1, h2⟩ := goodP_iff.mp hg
  rw [rev_get (by omega), rev_get (by omega)] at h1 h2
  have : (((ns.length - 1 - j : Nat) : Int), ((ns.length - 1 - i : Nat) : Int)) ∈ evs ns := mem_evs.mpr ⟨_, _, rfl, by omega, by omega, goodP_iff.mpr ⟨fun z => h1 z.symm, by omega⟩⟩
  rw [h] at this
  cases this
theorem evs_rev_iff {ns : List Int} : evs ns.reverse = [] ↔ evs ns = [] :=
  ⟨fun h => by have := evs_rev_nil h; rwa [List.reverse_reverse] at this, evs_rev_nil⟩
theorem RowOk.rev {ns : List Int} {m g : Int} (h : RowOk ns m g) : RowOk ns.reverse m g :=
  ⟨by rw [List.length_reverse]; exact h.1, by rw [List.length_reverse]; exact h.2.1, fun x hx => h.2.2 x (List.mem_reverse.mp hx)⟩
/-! ### small words -/
theorem cut63 (ns : List Int) : ∃ ms : List Int, cutV (ns.map V.int) none (some 63) = ms.map V.int ∧ (∀ z ∈ ms, z ∈ ns) ∧ ms.length ≤ ns.length := by
  refine ⟨(ns.drop (HT.sIx (ns.map V.int).length 0 none)).take (HT.sIx (ns.map V.int).length (ns.map V.int).length (some 63) - HT.sIx (ns.map V.int).length 0 none), ?_, fun z hz => List.mem_of_mem_drop (List.mem_of_mem_take hz), ?_⟩
  · unfold cutV
    rw [List.map_take, List.map_drop]
  · rw [List.length_take, List.length_drop]
    omega
theorem nq_prs (ps : List Pr) : ¬ (!PyData.eqv (prsD ps) (prsD ps)) = true := by rw [eqv_prs, decide_eq_true rfl]; decide
theorem nq_row (ns : List Int) : ¬ (!PyData.eqv (rowD ns) (rowD ns)) = true := by rw [eqv_row, decide_eq_true rfl]; decide
theorem all_rep (n : Nat) : (List.replicate n true).all id = true := by simp
/-- what is made and then changed leaves what stood before -/
theorem same_upd2 {H H1 : Hp} {o : Addr} {x : HO} (s : Same H H1) (n : H o = none) : Same H (upd H1 o x) := fun b u e => by
  rw [upd_ne (ne_of_none e n)]
  exact s _ _ e
theorem dp_row' {K : PySem.W.Frag} {H : Hp} {a : Addr} {ns : List Int} (h : Lst H a ns) : Dp K H (.ref a) (rowD ns) := dp_row h.sq
theorem two_ways {c : Prop} [Decidable c] {U V : Prop} (v : V) (h : c → V → U) : if c then U else V := by
  by_cases x : c
  · rw [if_pos x]; exact h x v
  · rw [if_neg x]; exact v
theorem offF {A B : Prop} (h : if false = true then A else B) : B := by
  rw [if_neg Bool.false_ne_true] at h
  exact h
end EG

/-! Rows that come by a count of evenings; how many small rows there are. -/
namespace EG
open PySem L2
abbrev Rw := List Int
def ins (ks : List Rw) (r : Rw) : List Rw := if r ∈ ks then ks else ks ++ [r]
def kids (r : Rw) : List Rw := (evs r).map (behP r)
def nextL (L : List Rw) : List Rw := L.foldl (fun acc r => (kids r).foldl ins acc) []
def lev (ns : Rw) : Nat → List Rw
  | 0 => [ns]
  | n + 1 => nextL (lev ns n)
inductive Rch : Rw → Nat → Rw → Prop
  | zero (r : Rw) : Rch r 0 r
  | step {r q : Rw} {n : Nat} {p : Pr} : Rch r n q → p ∈ evs q → Rch r (n + 1) (behP q p)
theorem mem_ins {ks : List Rw} {r x : Rw} : x ∈ ins ks r ↔ x ∈ ks ∨ x = r := by
  unfold ins
  split
  · constructor
    · exact .inl
    · rintro (h | rfl)
      · exact h
      · assumption
  · rw [List.mem_append, List.mem_singleton]
theorem mem_insAll {x : Rw} : ∀ {rs acc : List Rw}, x ∈ rs.foldl ins acc ↔ x ∈ acc ∨ x ∈ rs
  | [], acc => by simp
  | r :: rs, acc => by rw [List.foldl_cons, mem_insAll, mem_ins, List.mem_cons, or_assoc]
theorem nd_ins {ks : List Rw} {r : Rw} (h : ks.Nodup) : (ins ks r).Nodup := by
  unfold ins
  split
  · exact h
  · rename_i c
    exact List.nodup_append.mpr ⟨h, List.nodup_cons.mpr ⟨List.not_mem_nil, List.nodup_nil⟩, fun a ha b hb e => c (by rw [List.mem_singleton] at hb; rw [← hb, ← e]; exact ha)⟩
theorem nd_insAll : ∀ {rs acc : List Rw}, acc.Nodup → (rs.foldl ins acc).Nodup
  | [], _, h => h
  | _ :: rs, _, h => nd_insAll (rs := rs) (nd_ins h)
/-- a level so far -/
def levN (L : List Rw) (i : Nat) : List Rw := (L.take i).foldl (fun acc r => (kids r).foldl ins acc) []
theorem levN_succ {L : List Rw} {i : Nat} {r : Rw} (h : L[i]? = some r) : levN L (i + 1) = (kids r).foldl ins (levN L i) := by
  unfold levN
  rw [List.take_add_one, h, List.foldl_append]
  rfl
theorem levN_all (L : List Rw) : levN L L.length = nextL L := by unfold levN nextL; rw [List.take_length]
theorem mem_fold {x : Rw} : ∀ {L acc : List Rw}, x ∈ L.foldl (fun acc r => (kids r).foldl ins acc) acc ↔ x ∈ acc ∨ ∃ r ∈ L, x ∈ kids r
  | [], acc => by simp
  | r :: L, acc => by
    rw [List.foldl_cons, mem_fold, mem_insAll]
    simp only [List.mem_cons, exists_eq_or_imp, or_assoc]
theorem mem_levN {x : Rw} {L : List Rw} {i : Nat} : x ∈ levN L i ↔ ∃ r ∈ L.take i, x ∈ kids r := by unfold levN; rw [mem_fold]; simp
theorem nd_fold : ∀ {L acc : List Rw}, acc.Nodup → (L.foldl (fun acc r => (kids r).foldl ins acc) acc).Nodup
  | [], _, h => h
  | _ :: L, _, h => nd_fold (L := L) (nd_insAll h)
theorem nd_levN (L : List Rw) (i : Nat) : (levN L i).Nodup := nd_fold List.nodup_nil
theorem nd_lev (ns : Rw) : ∀ n, (lev ns n).Nodup
  | 0 => List.nodup_cons.mpr ⟨List.not_mem_nil, List.nodup_nil⟩
  | _ + 1 => nd_fold List.nodup_nil
theorem mem_kids {r x : Rw} : x ∈ kids r ↔ ∃ p ∈ evs r, x = behP r p := by
  unfold kids
  rw [List.mem_map]
  constructor
  · rintro ⟨p, h, rfl⟩; exact ⟨p, h, rfl⟩
  · rintro ⟨p, h, rfl⟩; exact ⟨p, h, rfl⟩
theorem mem_lev {ns x : Rw} : ∀ {n : Nat}, x ∈ lev ns n ↔ Rch ns n x
  | 0 => by
    show x ∈ [ns] ↔ _
    rw [List.mem_singleton]
    constructor
    · rintro rfl; exact .zero _
    · intro h; cases h; rfl
  | n + 1 => by
    show x ∈ nextL (lev ns n) ↔ _
    unfold nextL
    rw [mem_fold]
    constructor
    · rintro (h | ⟨r, hr, hx⟩)
      · cases h
      · obtain ⟨p, hp, rfl⟩ := mem_kids.mp hx
        exact .step (mem_lev.mp hr) hp
    · intro h
      cases h with
      | @step q _ p h hp => exact .inr ⟨q, mem_lev.mpr h, mem_kids.mpr ⟨p, hp, rfl⟩⟩
theorem Rch.sq {ns r : Rw} {n : Nat} (h : Rch ns n r) : EG.sq r + n ≤ EG.sq ns := by
  induction h with
  | zero => omega
  | step h hp ih =>
    have := sq_fall hp
    omega
theorem Rch.ok {ns r : Rw} {n : Nat} {m g : Int} (h : Rch ns n r) (ok : RowOk ns m g) : RowOk r m g := by
  induction h with
  | zero => exact ok
  | step h hp ih => exact ih.beh hp
theorem behP_length (r : Rw) (p : Pr) : (behP r p).length = r.length := beh_length _ _ _
theorem Rch.len {ns r : Rw} {n : Nat} (h : Rch ns n r) : r.length = ns.length := by
  induction h with
  | zero => rfl
  | step h hp ih => rw [behP_length, ih]
theorem behP_sum {r : Rw} {p : Pr} (hp : p ∈ evs r) : (behP r p).sum = r.sum := by
  obtain ⟨i, j, rfl, hij, hj, hg⟩ := mem_evs.mp hp
  exact sum_beh (by omega) hj (by omega) (goodP_iff.mp hg).2
theorem Rch.sum {ns r : Rw} {n : Nat} (h : Rch ns n r) : List.sum r = List.sum ns := by
  induction h with
  | zero => rfl
  | step h hp ih => rw [behP_sum hp, ih]
theorem sq_nonneg (r : Rw) : 0 ≤ sq r := by
  unfold sq
  induction r with
  | nil => exact Int.le_refl _
  | cons x r ih =>
    rw [List.map_cons, List.sum_cons]
    have : 0 ≤ x * x := by
      rcases Int.le_total 0 x with h | h
      · exact Int.mul_nonneg h h
      · exact Int.mul_nonneg_of_nonpos_of_nonpos h h
    omega
theorem Rch.bound {ns r : Rw} {n : Nat} (h : Rch ns n r) : n ≤ (EG.sq ns).toNat := by
  have h1 := h.sq
  have h2 := sq_nonneg r
  omega
theorem lev_end (ns : Rw) {n : Nat} (h : (sq ns).toNat < n) : lev ns n = [] := by
  rw [List.eq_nil_iff_forall_not_mem]
  intro r hr
  have := (mem_lev.mp hr).bound
  omega
/-- how many rows there are -/
theorem nodup_lt : ∀ (M : Nat) (l : List Nat), l.Nodup → (∀ x ∈ l, x < M) → l.length ≤ M
  | 0, l, _, h => by
    cases l with
    | nil => exact Nat.le_refl _
    | cons x l => exact absurd (h x List.mem_cons_self) (by omega)
  | M + 1, l, nd, h => by
    by_cases c : M ∈ l
    · have ih := nodup_lt M (l.erase M) (nd.erase M) fun x hx => by
        have h1 := h x (List.mem_of_mem_erase hx)
        have h2 : x ≠ M := (nd.mem_erase_iff.mp hx).1
        omega
      rw [List.length_erase_of_mem c] at ih
      omega
    · have ih := nodup_lt M l nd fun x hx => by
        have h1 := h x hx
        have h2 : x ≠ M := fun e => c (by rw [← e]; exact hx)
        omega
      omega
def code (r : Rw) : Nat := r.foldr (fun x a => x.toNat + 21 * a) 0
theorem code_lt : ∀ {r : Rw}, (∀ x ∈ r, 0 ≤ x ∧ x ≤ 20) → code r < 21 ^ r.length
  | [], _ => by decide
  | x :: r, h => by
    have h1 := h x List.mem_cons_self
    have ih := code_lt (r := r) fun y hy => h y (List.mem_cons_of_mem _ hy)
    show x.toNat + 21 * code r < 21 ^ (r.length + 1)
    rw [Nat.pow_succ]
    omega
theorem code_inj : ∀ {r q : Rw}, r.length = q.length → (∀ x ∈ r, 0 ≤ x ∧ x ≤ 20) → (∀ x ∈ q, 0 ≤ x ∧ x ≤ 20) → code r = code q → r = q
  | [], [], _, _, _, _ => rfl
  | [], _ :: _, h, _, _, _ => by simp at h
  | _ :: _, [], h, _, _, _ => by simp at h
  | x :: r, y :: q, hl, hr, hq, e => by
    have h1 := hr x List.mem_cons_self
    have h2 := hq y List.mem_cons_self
    have e' : x.toNat + 21 * code r = y.toNat + 21 * code q := e
    have e1 : x = y := by omega
    have e2 : code r = code q := by omega
    rw [e1, code_inj (by simpa using hl) (fun z hz => hr z (List.mem_cons_of_mem _ hz)) (fun z hz => hq z (List.mem_cons_of_mem _ hz)) e2]
theorem small_count {L : List Rw} (nd : L.Nodup) {n : Nat} (hn : n ≤ 5) (h : ∀ r ∈ L, r.length = n ∧ ∀ x ∈ r, 0 ≤ x ∧ x ≤ 20) : L.length ≤ 4084101 := by
  have h1 : (L.map code).length ≤ 21 ^ n := by
    refine nodup_lt _ _ ?_ ?_
    · rw [List.nodup_iff_pairwise_ne, List.pairwise_map]
      refine List.Pairwise.imp_of_mem ?_ (List.nodup_iff_pairwise_ne.mp nd)
      intro a b ha hb hne e
      exact hne (code_inj ((h a ha).1.trans (h b hb).1.symm) (h a ha).2 (h b hb).2 e)
    · intro x hx
      obtain ⟨r, hr, rfl⟩ := List.mem_map.mp hx
      have := code_lt (h r hr).2
      rwa [(h r hr).1] at this
  rw [List.length_map] at h1
  have h2 : 21 ^ n ≤ 21 ^ 5 := Nat.pow_le_pow_right (by decide) hn
  exact Nat.le_trans h1 (Nat.le_trans h2 (by decide))
abbrev Small (ns : Rw) : Prop := RowOk ns 5 20
theorem Small.row12 {ns : Rw} (h : Small ns) : ns.length ≤ 12 := by have := h.2.1; omega
theorem Small.len5 {ns : Rw} (h : Small ns) : ns.length ≤ 5 := by have := h.2.1; omega
theorem sq_le : ∀ {ns : Rw}, (∀ x ∈ ns, 0 ≤ x ∧ x ≤ 20) → sq ns ≤ 400 * ns.length
  | [], _ => by decide
  | x :: ns, h => by
    have ih := sq_le (ns := ns) fun y hy => h y (List.mem_cons_of_mem _ hy)
    obtain ⟨h1, h2⟩ := h x List.mem_cons_self
    have h3 : x * x ≤ 20 * 20 := Int.mul_le_mul h2 h2 h1 (by decide)
    show (List.map (fun x => x * x) (x :: ns)).sum ≤ 400 * ((x :: ns).length : Int)
    unfold sq at ih
    rw [List.map_cons, List.sum_cons, List.length_cons]
    omega
theorem Small.sq {ns : Rw} (h : Small ns) : (EG.sq ns).toNat ≤ 2000 := by
  have h1 := sq_le h.2.2
  have h2 := h.len5
  omega
theorem count_le {L : List Rw} {ns : Rw} (ok : Small ns) (nd : L.Nodup) (h : ∀ r ∈ L, ∃ n, Rch ns n r) : L.length ≤ 4084101 :=
  small_count nd ok.len5 fun r hr => by
    obtain ⟨n, hn⟩ := h r hr
    exact ⟨hn.len, (hn.ok ok).2.2⟩
theorem lev_count {ns : Rw} (ok : Small ns) (n : Nat) : (lev ns n).length ≤ 4084101 := count_le ok (nd_lev ns n) fun _ hr => ⟨n, mem_lev.mp hr⟩
theorem lineB {n : Nat} (h : n ≤ 4100000) : n < sizeLine := Nat.lt_of_le_of_lt h (by decide)
end EG

/-! The law's own small functions, common to the laws. -/
namespace EG
open PySem L2
theorem at_in {xs : List V} {i : Int} (h0 : 0 ≤ i) (h1 : i < xs.length) : ∃ v, atI xs i = some v ∧ v ∈ xs := by
  have hl : i.toNat < xs.length := by omega
  exact ⟨xs[i.toNat], at_of (j := i.toNat) (by omega) (List.getElem?_eq_getElem hl), List.getElem_mem hl⟩
abbrev bits (i : Int) : Nat := Builtin.Int.intBits i
section
variable {P : Program} {w : World} {K : PySem.W.Frag} {mg : Str → Option Value} {base : Heap}
/-! ### a cell of the script -/
def sp_cell_at (K : PySem.W.Frag) : Sp := fun vs H Q _ => ∃ (a : Addr) (ns : List Int) (k : Int), vs = [.ref a, .int k] ∧ SqL K H a (ns.map V.int) ∧ 0 ≤ k ∧ ∀ z : Int, (z = 0 ∨ z ∈ ns) → Q (.int z) H
theorem ok_cell_at {f : Addr} {fd : FuncData} (F : Fun K "_law_cell_at" "_law_cell_at" s_l_cell_at f fd) (B : Blt mg) : FnOk P w K mg base CX0 1 f fd ["_law_script", "_law_k"] (sp_cell_at K) := by
  refine F.ok sc_l_cell_at (fun vs H Q E h => ?_) (fun cdv A outer s H vs Q E hr h => ?_)
  · obtain ⟨a, ns, k, rfl, _⟩ := h
    rfl
  · obtain ⟨a, ns, k, rfl, hS, h0, q⟩ := h
    refine ⟨_, pss_cons (ps_if (pt_cmpR op_lt (pv 1) (pe_callB call_len_seq (by rfl) B.len PySem.boot_len (pa_cons (pv 0) pa_nil)) (nomark _)) (pss_one (ps_ret (pe_ix ix_list (pv 0) (pv 1) (fun _ _ => rfl)))) pss_nil)
      (pss_one (ps_ret pe_int)), ?_⟩
    refine ⟨.int k, rfl, .ref a, rfl, a, _, rfl, .inl hS, _, _, rfl, rfl, _, rfl, ite2 (fun c => ?_) (fun _ => q 0 (.inl rfl))⟩
    have c1 : k < ((ns.map V.int).length : Int) := of_decide_eq_true c
    obtain ⟨v, e, hv⟩ := at_in h0 c1
    obtain ⟨z, hz, rfl⟩ := List.mem_map.mp hv
    exact ⟨.ref a, rfl, .int k, rfl, a, _, _, _, rfl, rfl, hS, e, q z (.inr hz)⟩
/-! ### a draw -/
def primes : List Int := [1000003, 1000033, 1000037, 1000039, 1000081, 1000099, 1000117, 1000121, 1000133, 1000151, 1000159, 1000171, 1000183, 1000187, 1000193, 1000199]
def sp_draw : Sp := fun vs H Q _ => ∃ c k m : Int, vs = [.int c, .int k, .int m] ∧ 0 < m ∧ ∀ H' z, Same H H' → Q (.int z) H'
theorem ok_draw {f : Addr} {fd : FuncData} (F : Fun K "_law_draw" "_law_draw" s_l_draw f fd) : FnOk P w K mg base CX0 1 f fd ["_law_cell", "_law_k", "_law_many"] sp_draw := by
  refine F.ok sc_l_draw (fun vs H Q E h => ?_) (fun cdv A outer s H vs Q E hr h => ?_)
  · obtain ⟨c, k, m, rfl, _⟩ := h
    rfl
  · obtain ⟨c, k, m, rfl, hm, q⟩ := h
    refine ⟨_, pss_cons (ps_set (i := 3) sc_l_draw.nd rfl (.inl rfl) (pe_tup (pa_cons pe_int (pa_cons pe_int (pa_cons pe_int (pa_cons pe_int (pa_cons pe_int (pa_cons pe_int (pa_cons pe_int (pa_cons pe_int
        (pa_cons pe_int (pa_cons pe_int (pa_cons pe_int (pa_cons pe_int (pa_cons pe_int (pa_cons pe_int (pa_cons pe_int (pa_cons pe_int pa_nil))))))))))))))))))
      (pss_one (ps_ret (pe_op op_mod (pe_op op_mod (pe_op op_add (pe_op op_mul (pv 0) pe_int) (pe_op op_mul (pv 1) pe_int)) (pe_ix ix_tup (pv 3) (pe_op op_mod (pv 1) pe_int) (fun _ _ => rfl))) (pv 2)))), ?_⟩
    refine ⟨(by show 16 ≤ sizeLine; decide), fun t ht => ?_⟩
    have hT : (upd H t (.tup (primes.map V.int))) t = some (.tup (primes.map V.int)) := upd_same
    refine ⟨.int c, rfl, _, _, rfl, rfl, .inr ⟨by decide, by decide⟩, .int k, rfl, _, _, rfl, rfl, .inr ⟨by decide, by decide⟩, _, _, rfl, rfl, ?_⟩
    have h16 : (0 : Int) ≤ k % 16 ∧ k % 16 < 16 := by omega
    obtain ⟨v, e, hv⟩ := at_in (xs := primes.map V.int) (i := k % 16) h16.1 h16.2
    obtain ⟨z, hz, rfl⟩ := List.mem_map.mp hv
    have hz0 : (0 : Int) < z := by
      revert hz
      revert z
      intro z _ _ hz
      have : ∀ y ∈ primes, (0 : Int) < y := by decide
      exact this z hz
    refine ⟨.ref t, rfl, .int k, rfl, _, _, rfl, rfl, (by show (0 : Int) < 16; decide), t, _, _, _, rfl, rfl, SqT.of hT, e, _, _, rfl, rfl, hz0, .int m, rfl, _, _, rfl, rfl, hm, ?_⟩
    exact q _ _ (same_new ht)
/-! ### a value -/
def sp_value : Sp := fun vs H Q _ => ∃ c k : Int, vs = [.int c, .int k] ∧ bits c ≤ 1048600 ∧ 0 ≤ k ∧ k ≤ 1000 ∧ ∀ H' z, Same H H' → Q (.int z) H'
theorem bits_small {z : Int} (h : z.natAbs < 2 ^ 64) : bits z ≤ 64 := intBits_le_iff.mpr h
theorem bits_add {c z : Int} {m : Nat} (hc : bits c ≤ m) (hz : z.natAbs < 2 ^ 64) (hm : 64 ≤ m) : bits (c + z) ≤ m + 1 := by
  have h := intBits_add_le hc (bits_small hz)
  rw [Nat.max_eq_left hm] at h
  exact h
theorem ok_value {f : Addr} {fd : FuncData} (F : Fun K "_law_value" "_law_value" s_l_value f fd) (cD : Cal CX0 P w K mg base "_law_draw" ["_law_cell", "_law_k", "_law_many"] 1 sp_draw) : FnOk P w K mg base CX0 2 f fd ["_law_cell", "_law_turn"] sp_value := by
  refine F.ok sc_l_value (fun vs H Q E h => ?_) (fun cdv A outer s H vs Q E hr h => ?_)
  · obtain ⟨c, k, rfl, _⟩ := h
    rfl
  · obtain ⟨c, k, rfl, hb, h0, h1, q⟩ := h
    refine ⟨_, pss_cons (ps_if (pt_cmpR op_ge (pv 0) (pe_op op_pow pe_int pe_int) (nomark _)) (pss_one (ps_ret (pe_op op_shr (pe_op op_sub (pv 0) (pe_op op_pow pe_int pe_int)) (pe_op op_mul pe_int (pv 1))))) pss_nil)
      (pss_cons (ps_set (i := 2) sc_l_value.nd rfl (.inl rfl) (pe_cal cD hr (by rfl) (pa_cons (pe_op op_mulB (pe_op op_add (pv 0) (pe_op op_mul pe_int (pv 1))) (pe_op op_add (pe_op op_add (pv 0) (pe_op op_mul pe_int (pv 1))) pe_int))
          (pa_cons (pe_op op_add (pe_op op_mod (pv 1) pe_int) pe_int) (pa_cons pe_int pa_nil)))))
      (pss_one (ps_ret (pe_op op_add (pe_op op_mul (pv 2) pe_int) (pe_cal cD hr (by rfl) (pa_cons (pe_op op_add (pe_op op_mulB (pe_op op_add (pv 0) (pe_op op_mul pe_int (pv 1))) (pe_op op_add (pv 0) pe_int)) (pe_op op_mul pe_int (pv 1)))
          (pa_cons (pe_op op_add (pe_op op_mod (pv 1) pe_int) pe_int) (pa_cons pe_int pa_nil)))))))), ?_⟩
    have pw : CPow 10 18 := ⟨by decide, by decide, by decide⟩
    refine ⟨.int c, rfl, _, _, rfl, rfl, pw, _, _, rfl, rfl, _, rfl, ite2 (fun _ => ?_) (fun _ => ?_)⟩
    · refine ⟨.int c, rfl, _, _, rfl, rfl, pw, _, _, rfl, rfl, .int k, rfl, _, _, rfl, rfl, .inl ⟨by decide, by decide⟩, _, _, rfl, rfl, by omega, ?_⟩
      exact q _ _ (Same.refl _)
    · have b1 : bits (c + 977 * k) ≤ 1048601 := bits_add hb (by omega) (by decide)
      have b2 : bits (c + 31 * k) ≤ 1048601 := bits_add hb (by omega) (by decide)
      have b3 : bits (c + 31 * k + 5) ≤ 1048602 := bits_add b2 (by decide) (by decide)
      have b4 : bits (c + 7) ≤ 1048601 := bits_add hb (by decide) (by decide)
      refine ⟨.int c, rfl, .int k, rfl, _, _, rfl, rfl, .inl ⟨by decide, by decide⟩, _, _, rfl, rfl, .int c, rfl, .int k, rfl, _, _, rfl, rfl, .inl ⟨by decide, by decide⟩, _, _, rfl, rfl, _, _, rfl, rfl, _, _, rfl, rfl, IntMulOk.of_le b1 b3 (by decide), ?_⟩
      refine ⟨.int k, rfl, _, _, rfl, rfl, (by show (0 : Int) < 9; decide), _, _, rfl, rfl, _, _, _, rfl, by decide, fun H1 z1 s1 => ?_⟩
      refine ⟨.int z1, rfl, _, _, rfl, rfl, .inr ⟨by decide, by decide⟩, ?_⟩
      refine ⟨.int c, rfl, .int k, rfl, _, _, rfl, rfl, .inl ⟨by decide, by decide⟩, _, _, rfl, rfl, .int c, rfl, _, _, rfl, rfl, _, _, rfl, rfl, IntMulOk.of_le b2 b4 (by decide), .int k, rfl, _, _, rfl, rfl, .inl ⟨by decide, by decide⟩, _, _, rfl, rfl, ?_⟩
      refine ⟨.int k, rfl, _, _, rfl, rfl, (by show (0 : Int) < 7; decide), _, _, rfl, rfl, _, _, _, rfl, by decide, fun H2 z2 s2 => ?_⟩
      exact ⟨_, _, rfl, rfl, q _ _ (s1.trans s2)⟩
end
end EG

/-! {key: value} of one pair, the key a tuple. -/
namespace EG
open PySem PySem.Spec PyProof.Rows L2
def tDispT (tk tv : TE) : TE := fun σ H Q => ∀ p, H p = none → tk σ (upd H p (.dT [])) fun x H1 => tv σ H1 fun y H2 =>
  ∃ (b : Addr) (k : List Key), x = .ref b ∧ H2 p = some (.dT []) ∧ H2 b = some (.tup (k.map kV)) ∧ Q (.ref p) (upd H2 p (.dT [(k, y)]))
section
variable {X : Cx}
theorem pe_dispT {k v : Expr} {tk tv : TE} {pos : Pos} (hu : X.A.units + 1 < cLine) (hk : PE X k tk) (hv : PE X v tv) : PE X (.Dict [some k] [v] pos) (tDispT tk tv) := by
  refine ⟨fun pins s σ H Q I q => ?_⟩
  have fr := I.hok.fresh (Nat.le_refl s.heap.objs.size)
  have IA := I.laid (a := s.heap.objs.size) (o := .dT []) (h' := s.heap.push { cls := .type "dict", data := .dict #[] }) (t' := s.toks) (fun _ _ z => Heap.get?_push_of_some _ z) (Nat.le_refl _) (dt_empty s.heap I.big)
  rw [arm_eval_Dict, zip_pairTrees [some k] [v] X.env pos rfl rfl, dictDisplay_pairs (pairTrees [some k] [v] X.env pos) (by simp [pairTrees]) (by simp [pairTrees])]
  refine wpAny_bind (wpAny_standAt (wpAny_bind (wpAny_subDictH (knd := tupleKind (mixKind X.prog X.w)) (Q := fun d s' => wpAny (model X.prog X.w) X.A (pure (Value.ref d)) (EP X pins σ Q) X.xe s') (show X.A.units < cLine by omega) (by simp [pairTrees]) ?_)))
  refine pairTrees_cons_walk (thn (hk.run pins _ σ _ _ IA (q _ fr)) fun u sA ⟨x, HA, IB, rx, qA⟩ => thn (hv.run pins sA σ HA _ IB qA) fun z sB ⟨y, HB, IC, ry, b, ks, ex, e, eb, qB⟩ => pairTrees_nil_walk ?_)
  subst ex
  cases rx
  obtain ⟨_, hd, xs, rel, dd⟩ := dt_of IC.hok e
  cases rel
  refine ⟨[(ks, b, z)], ⟨rfl, rfl, key_of IC.hok eb, trivial⟩, dd, fun hN tN dN hs => wpAny_pure ⟨.ref s.heap.objs.size, _, ?_, rfl, qB⟩⟩
  obtain ⟨o, es, ep, hq, h2, h3, h4, _, h5⟩ := dN
  refine d_write IC (by rw [e]; exact True.intro) hs ⟨o, hq⟩ ⟨by show 1 ≤ sizeLine; decide, hd, [(ks, b, z)], .cons ⟨rfl, ?_, ry⟩ .nil, o, es, ep, hq, h2, h3, h4, h5⟩
  rw [upd_ne (ne_of eb e (fun w => nomatch w))]
  exact eb
end
end EG

/-! Dicts whose keys are rows; lists of rows. -/
namespace EG
open PySem L2
def rowKey (r : Rw) : List Key := r.map Sum.inl
theorem rowKey_V (r : Rw) : (rowKey r).map kV = r.map V.int := by unfold rowKey; rw [List.map_map]; rfl
theorem rowKey_inj {r q : Rw} (h : rowKey r = rowKey q) : r = q := by
  unfold rowKey at h
  exact (List.map_inj_right fun a b e => Sum.inl.inj e).mp h
def dRows (ks : List Rw) : List (List Key × V) := ks.map fun r => (rowKey r, V.bl true)
theorem dRows_length (ks : List Rw) : (dRows ks).length = ks.length := List.length_map ..
theorem val_dRows (r : Rw) : ∀ ks : List Rw, (valV (dRows ks) (rowKey r)).isSome = decide (r ∈ ks)
  | [] => rfl
  | k :: ks => by
    have ih := val_dRows r ks
    by_cases e : k = r
    · subst e
      rw [show dRows (k :: ks) = (rowKey k, V.bl true) :: dRows ks from rfl, valV_pos rfl]
      simp
    · have e2 : ¬ (rowKey k, V.bl true).1 = rowKey r := fun z => e (rowKey_inj z)
      have e3 : ¬ r = k := fun z => e z.symm
      rw [show dRows (k :: ks) = (rowKey k, V.bl true) :: dRows ks from rfl, valV_neg e2, ih]
      simp [e3]
theorem put_dRows (ks : List Rw) (r : Rw) : putK (dRows ks) (rowKey r) (V.bl true) = dRows (ins ks r) := by
  unfold ins
  by_cases c : r ∈ ks
  · rw [if_pos c]
    unfold putK
    rw [valV_any, val_dRows, decide_eq_true c, if_pos rfl]
    unfold dRows
    rw [List.map_map]
    refine List.map_congr_left fun q _ => ?_
    show (if rowKey q = rowKey r then (rowKey q, V.bl true) else (rowKey q, V.bl true)) = _
    split <;> rfl
  · rw [if_neg c, putK_new]
    · unfold dRows; rw [List.map_append]; rfl
    · have h := val_dRows r ks
      rw [decide_eq_false c] at h
      cases e : valV (dRows ks) (rowKey r) with
      | none => rfl
      | some v => rw [e] at h; cases h
theorem get_dRows {ks : List Rw} {i : Nat} {k : List Key} {v : V} (h : (dRows ks)[i]? = some (k, v)) : ∃ r, ks[i]? = some r ∧ k = rowKey r := by
  unfold dRows at h
  rw [List.getElem?_map] at h
  cases e : ks[i]? with
  | none => rw [e] at h; cases h
  | some r => rw [e] at h; cases h; exact ⟨r, rfl, rfl⟩
/-- a comprehension over a dict's tuple keys -/
theorem lc_keysT {d : Addr} {od : Obj} {kvs : List (List Key × V)} {g : TG} {tt : TT} {te : TE} {vs : List Nat} {σ : St} {H1 : Hp} {D : Addr} {Qd : Hp → Prop} (Pv : Nat → Hp → Prop) (h0 : Pv 0 (upd H1 D (.lst [])))
    (hl : ∀ i H, Pv i H → H d = some (.frz od (.dT kvs)))
    (hs : ∀ (i : Nat) (k : List Key) (v : V) (q : Addr) (H : Hp), kvs[i]? = some (k, v) → H q = some (.tup (k.map kV)) → Pv i H → g (.ref q) (wipe σ vs) H fun σ2 H2 => wipe σ2 vs = wipe σ vs ∧ tt σ2 H2 fun b H3 =>
      if b = true then te σ2 H3 fun y H4 => ∃ acc, H4 D = some (.lst acc) ∧ acc.length < sizeLine ∧ Pv (i + 1) (upd H4 D (.lst (acc ++ [y]))) else Pv (i + 1) H3) (hd : ∀ H, Pv kvs.length H → Qd H) :
    ∃ W : Nat → Nat → Hp → Prop, (∃ m, W 0 m (upd H1 D (.lst []))) ∧ ∀ i m H, W i m H →
      ((Itkt d od kvs).stop i H ∧ Qd H) ∨ ((Itkt d od kvs).go i H ∧ ∃ Nx : Hp → Prop, (∀ H', Nx H' → ∃ m', m' < m ∧ W (i + 1) m' H') ∧ ∀ x H', (Itkt d od kvs).yld i H x H' → g x (wipe σ vs) H' fun σ2 H2 => wipe σ2 vs = wipe σ vs ∧ tt σ2 H2 fun b H3 =>
        if b = true then te σ2 H3 fun y H4 => ∃ acc, H4 D = some (.lst acc) ∧ acc.length < sizeLine ∧ Nx (upd H4 D (.lst (acc ++ [y]))) else Nx H3) := by
  refine ⟨fun i m H => m = kvs.length - i ∧ i ≤ kvs.length ∧ Pv i H, ⟨kvs.length, by omega, Nat.zero_le _, h0⟩, ?_⟩
  rintro i m H ⟨rfl, hi, p⟩
  have hdo := hl i H p
  by_cases c : i < kvs.length
  · refine .inr ⟨⟨hdo, c⟩, Pv (i + 1), fun H' z => ⟨kvs.length - (i + 1), by omega, rfl, c, z⟩, fun x H' y => ?_⟩
    obtain ⟨rfl, k, v, q, ek, rfl, eq⟩ := y
    exact hs i k v q _ ek eq p
  · have e : i = kvs.length := by omega
    subst e
    exact .inl ⟨⟨hdo, Nat.le_refl _⟩, hd H p⟩
/-! ### lists that stand -/
def Lsts (H H' : Hp) : Prop := ∀ b xs, H b = some (.lst xs) → H' b = some (.lst xs)
theorem Same.lsts {H H' : Hp} (s : Same H H') : Lsts H H' := fun b xs h => s b _ h
theorem Lsts.refl (H : Hp) : Lsts H H := fun _ _ h => h
theorem Lsts.trans {H H1 H2 : Hp} (a : Lsts H H1) (b : Lsts H1 H2) : Lsts H H2 := fun c xs h => b c xs (a c xs h)
theorem lsts_dT {H : Hp} {p : Addr} {kvs : List (List Key × V)} {o : HO} (h : H p = some (.dT kvs)) : Lsts H (upd H p o) := fun b ys e => by
  rw [upd_ne (ne_of e h (by intro z; cases z))]; exact e
theorem lsts_frz {H : Hp} {p : Addr} {u : Obj} {z : HO} {o : HO} (h : H p = some (.frz u z)) : Lsts H (upd H p o) := fun b ys e => by
  rw [upd_ne (ne_of e h (by intro z; cases z))]; exact e
theorem tups_dT {H : Hp} {p : Addr} {kvs : List (List Key × V)} {o : HO} (h : H p = some (.dT kvs)) : TupS H (upd H p o) := fun b ys e => by
  rw [upd_ne (ne_of e h (by intro z; cases z))]; exact e
theorem tups_frz {H : Hp} {p : Addr} {u : Obj} {z : HO} {o : HO} (h : H p = some (.frz u z)) : TupS H (upd H p o) := fun b ys e => by
  rw [upd_ne (ne_of e h (by intro z; cases z))]; exact e
/-- a heap without some addresses -/
def hid (H : Hp) (xs : List Addr) : Hp := fun b => if b ∈ xs then none else H b
theorem hid_in {H : Hp} {xs : List Addr} {b : Addr} (h : b ∈ xs) : hid H xs b = none := if_pos h
theorem hid_out {H : Hp} {xs : List Addr} {b : Addr} (h : b ∉ xs) : hid H xs b = H b := if_neg h
theorem hid_same (H : Hp) (xs : List Addr) : Same (hid H xs) H := fun b o e => by
  unfold hid at e
  split at e
  · cases e
  · exact e
theorem hid_mono {H H' : Hp} {xs : List Addr} (s : Same H H') : Same (hid H xs) (hid H' xs) := fun b o e => by
  unfold hid at e ⊢
  split at e
  · cases e
  · rename_i c
    rw [if_neg c]
    exact s _ _ e
theorem hid_lsts {H H' : Hp} {xs : List Addr} (s : Lsts H H') : Lsts (hid H xs) (hid H' xs) := fun b o e => by
  unfold hid at e ⊢
  split at e
  · cases e
  · rename_i c
    rw [if_neg c]
    exact s _ _ e
theorem hid_upd {H : Hp} {xs : List Addr} {a : Addr} {o : HO} (h : a ∈ xs) : hid (upd H a o) xs = hid H xs := by
  funext b
  unfold hid
  split
  · rfl
  · rename_i c
    exact upd_ne fun e => c (by rw [e]; exact h)
theorem hid_less {H : Hp} {xs ys : List Addr} (h : ∀ a ∈ xs, a ∈ ys) : Same (hid H ys) (hid H xs) := fun b o e => by
  unfold hid at e ⊢
  split at e
  · cases e
  · rename_i c
    rw [if_neg fun z => c (h b z)]
    exact e
/-- a value that is a row; a list of rows -/
def IsRow (H : Hp) (v : V) (r : Rw) : Prop := ∃ b, v = .ref b ∧ Lst H b r
abbrev Rows (H : Hp) : List V → List Rw → Prop := Paired (IsRow H)
def IsLv (H : Hp) (v : V) (L : List Rw) : Prop := ∃ b ws, v = .ref b ∧ H b = some (.lst ws) ∧ Rows H ws L
abbrev Lvs (H : Hp) : List V → List (List Rw) → Prop := Paired (IsLv H)
theorem IsRow.mono {H H' : Hp} (s : Lsts H H') {v : V} {r : Rw} (h : IsRow H v r) : IsRow H' v r := by
  obtain ⟨b, e, h⟩ := h
  exact ⟨b, e, s _ _ h⟩
theorem Rows.mono {H H' : Hp} (s : Lsts H H') {vs : List V} {L : List Rw} (h : Rows H vs L) : Rows H' vs L := Paired.mapP h fun _ _ q => q.mono s
theorem IsLv.mono {H H' : Hp} (s : Lsts H H') {v : V} {L : List Rw} (h : IsLv H v L) : IsLv H' v L := by
  obtain ⟨b, ws, e, h, r⟩ := h
  exact ⟨b, ws, e, s _ _ h, r.mono s⟩
theorem Lvs.mono {H H' : Hp} (s : Lsts H H') {vs : List V} {L : List (List Rw)} (h : Lvs H vs L) : Lvs H' vs L := Paired.mapP h fun _ _ q => q.mono s
theorem pd_app {α β : Type} {F : α → β → Prop} : ∀ {vs ws : List α} {ps qs : List β}, Paired F vs ps → Paired F ws qs → Paired F (vs ++ ws) (ps ++ qs)
  | _, _, _, _, .nil, h => h
  | _, _, _, _, .cons r t, h => .cons r (pd_app t h)
theorem pd_at {α β : Type} {F : α → β → Prop} : ∀ {vs : List α} {ps : List β} {i : Nat} {v : α}, Paired F vs ps → vs[i]? = some v → ∃ p, ps[i]? = some p ∧ F v p
  | _, _, _, _, .nil, e => by simp at e
  | _, _, 0, _, .cons r _, e => by simp at e; subst e; exact ⟨_, rfl, r⟩
  | _, _, i + 1, v, .cons _ t, e => by
    obtain ⟨p, h1, h2⟩ := pd_at (i := i) (v := v) t (by simpa using e)
    exact ⟨p, by simpa using h1, h2⟩
theorem pd_len {α β : Type} {F : α → β → Prop} {vs : List α} {ps : List β} (h : Paired F vs ps) : vs.length = ps.length := Paired.length h
end EG

/-! sorted of a list of rows of whole numbers. -/
namespace EG
open PySem PySem.Spec PyProof.Rows L2
def srt (L : List Rw) : List Rw := L.mergeSort fun p q => decide (p ≤ q)
theorem perm_of_mem : ∀ {L M : List Rw}, L.Nodup → M.Nodup → (∀ x, x ∈ L ↔ x ∈ M) → L.Perm M
  | [], M, _, _, h => by
    have e : M = [] := List.eq_nil_iff_forall_not_mem.mpr fun x hx => nomatch (h x).mpr hx
    rw [e]
  | x :: L, M, n1, n2, h => by
    have hx : x ∈ M := (h x).mp List.mem_cons_self
    obtain ⟨hxL, ndL⟩ := List.nodup_cons.mp n1
    refine ((perm_of_mem ndL (n2.erase x) fun y => ?_).cons x).trans (List.perm_cons_erase hx).symm
    rw [n2.mem_erase_iff]
    constructor
    · intro hy
      exact ⟨fun e => hxL (by rw [← e]; exact hy), (h y).mp (List.mem_cons_of_mem _ hy)⟩
    · rintro ⟨ne, hy⟩
      rcases List.mem_cons.mp ((h y).mpr hy) with e | hy
      · exact absurd e ne
      · exact hy
theorem srt_le_total (a b : Rw) : (decide (a ≤ b) || decide (b ≤ a)) = true := by
  rcases List.le_total a b with h | h <;> simp [h]
theorem srt_le_trans (a b c : Rw) (h1 : decide (a ≤ b) = true) (h2 : decide (b ≤ c) = true) : decide (a ≤ c) = true := decide_eq_true (List.le_trans (of_decide_eq_true h1) (of_decide_eq_true h2))
theorem srt_perm (L : List Rw) : (srt L).Perm L := List.mergeSort_perm L _
theorem srt_nodup {L : List Rw} (h : L.Nodup) : (srt L).Nodup := (srt_perm L).nodup_iff.mpr h
theorem mem_srt {L : List Rw} {x : Rw} : x ∈ srt L ↔ x ∈ L := (srt_perm L).mem_iff
theorem srt_eq {L M : List Rw} (h : L.Perm M) : srt L = srt M :=
  ((srt_perm L).trans (h.trans (srt_perm M).symm)).eq_of_pairwise (fun a b _ _ h1 h2 => List.le_antisymm (of_decide_eq_true h1) (of_decide_eq_true h2)) (List.pairwise_mergeSort srt_le_trans srt_le_total L) (List.pairwise_mergeSort srt_le_trans srt_le_total M)
theorem srt_same {L M : List Rw} (n1 : L.Nodup) (n2 : M.Nodup) (h : ∀ x, x ∈ L ↔ x ∈ M) : srt L = srt M := srt_eq (perm_of_mem n1 n2 h)
/-- sorted(xs), xs a list of rows; R is whatever the items are known to be -/
def rSortRows (K : PySem.W.Frag) : List V → Hp → VK → Prop := fun vs H Q => ∃ (a : Addr) (ws : List V) (L : List Rw) (R : V → Rw → Prop), vs = [V.ref a] ∧ SqL K H a ws ∧ Paired R ws L ∧ (∀ v r, R v r → IsRow H v r) ∧
  ∀ ys p, H p = none → Paired R ys (srt L) → Q (.ref p) (upd H p (.lst ys))
theorem each_rows {H : Hp} {R : V → Rw → Prop} (hR : ∀ v r, R v r → IsRow H v r) : ∀ {ws : List V} {us : List Value} {L : List Rw}, Vals ws us → Paired R ws L → PySem.W.EachIs (fun u r => R (backV u) r ∧ ∃ a, u = Value.ref a) us L
  | _, _, _, .nil, .nil => .nil
  | _, _, _, .cons r t, .cons q z => by
    obtain ⟨b, rfl, _⟩ := hR _ _ q
    cases r
    exact .cons ⟨q, b, rfl⟩ (each_rows hR t z)
theorem back_rows {R : V → Rw → Prop} : ∀ {us : List Value} {L : List Rw}, PySem.W.EachIs (fun u r => R (backV u) r ∧ ∃ a, u = Value.ref a) us L → Paired R (us.map backV) L ∧ ∀ u ∈ us, ∃ a, u = Value.ref a
  | _, _, .nil => ⟨.nil, fun u hu => nomatch hu⟩
  | _, _, .cons q z => by
    obtain ⟨h1, h2⟩ := back_rows z
    refine ⟨.cons q.1 h1, fun u hu => ?_⟩
    rcases List.mem_cons.mp hu with e | hu
    · rw [e]; exact q.2
    · exact h2 u hu
theorem rows_reads {X : Cx} {pins : List (Addr × Obj)} {σ : L2.St} {H : Hp} {s : Shared} (I : L2.Inv X pins σ H s) {R : V → Rw → Prop} (hR : ∀ v r, R v r → IsRow H v r) : ∀ {us : List Value} {L : List Rw}, PySem.W.EachIs (fun u r => R (backV u) r ∧ ∃ a, u = Value.ref a) us L →
    PySem.W.EachIs (fun v b => ∃ as, Reads s.heap v (rowD b) as) us L
  | _, _, .nil => .nil
  | _, _, .cons q z => by
    refine .cons ?_ (rows_reads I hR z)
    obtain ⟨q1, a, rfl⟩ := q
    obtain ⟨b, e, hb⟩ := hR _ _ q1
    cases e
    exact Dp.reads I (rowD _) (.ref a) (.ref a) (dp_row (SqL.of hb)) rfl
section
variable {X : Cx}
theorem cr_sortRows (hu : X.A.units + 65 < cLine) : CallR X (.builtin "sorted") (rSortRows X.K) := by
  intro pins s σ H vs us Q I r h
  obtain ⟨a, ws, L, R, rfl, hs, hp, hR, q⟩ := h
  obtain ⟨its, rv, hl, hz⟩ := I.list hs
  rw [Vals.ref1 r]
  have e := each_rows hR rv hp
  refine PySem.W.sorted_data (enc := rowD) (R := fun u r => R (backV u) r ∧ ∃ a, u = Value.ref a) hl.isList e (rows_reads I hR e) (PySem.W.AllAlike.of fun b b' => by unfold rowD; simp only [PySem.W.alike]; exact PySem.W.alike_ints b b')
    (PySem.W.Sortable.others fun b => ⟨nofun, nofun⟩) (by rw [← e.length, ← rv.length]; exact hz) (fun b _ => ?_) fun out ho eo => ?_
  · have h1 : (rowD b).depth = 1 := by
      unfold rowD
      rw [PyData.depth, PySem.W.depth_ints]
    omega
  · have ed : PySem.W.dataLe false rowD = fun p q => decide (p ≤ q) := PySem.W.dataLe_rows (fun b : List Int => b)
    rw [ed] at eo
    obtain ⟨h1, h2⟩ := back_rows eo
    obtain ⟨ep, he'⟩ := PyProof.Rows.sortedAll_at s.heap its out.toArray
    refine ⟨.ref _, upd H (s.heap.objs.size + 1) (.lst (out.map backV)), I.laid (t' := s.toks) (fun _ _ => PyProof.Rows.sortedAll_old) (Nat.le_succ _) ⟨?_, out, ep, vals_back h2, he'⟩, rfl, q _ _ (I.hok.fresh (Nat.le_succ _)) h1⟩
    rw [List.length_map, ho, ← e.length, ← rv.length]
    exact hz
end
end EG

/-! ends: all settled rows that a row comes to. -/
namespace EG
open PySem L2
/-! ### lists of rows as data -/
def rowsD (L : List Rw) : PyData := .list (L.map rowD)
theorem eqv_rows : ∀ L M : List Rw, PyData.eqv (rowsD L) (rowsD M) = decide (L = M)
  | [], [] => by simp [rowsD, PyData.eqv, PyData.eqvAll]
  | [], _ :: _ => by simp [rowsD, PyData.eqv, PyData.eqvAll]
  | _ :: _, [] => by simp [rowsD, PyData.eqv, PyData.eqvAll]
  | p :: ps, q :: qs => by
    have ih := eqv_rows ps qs
    simp only [rowsD, PyData.eqv] at ih
    simp only [rowsD, PyData.eqv, PyData.eqvAll, List.map_cons, eqv_row, ih, List.cons.injEq]
    rw [Bool.decide_and]
theorem lay_rows : ∀ L : List Rw, PyData.canLayAll0 (L.map rowD) = true ∧ PyData.depthAll (L.map rowD) ≤ 1
  | [] => by simp [PyData.canLayAll0, PyData.depthAll]
  | p :: ps => by
    have ih := lay_rows ps
    have h1 : (rowD p).canLay0 = true := by simp only [rowD, PyData.canLay0]; exact (lay_ints p).1
    have h2 : (rowD p).depth ≤ 1 := by
      simp only [rowD, PyData.depth]
      have := (lay_ints p).2
      omega
    refine ⟨by simp [PyData.canLayAll0, ih.1, h1], ?_⟩
    simp only [List.map_cons, PyData.depthAll]
    omega
theorem shaped_rows (L : List Rw) : SeqAt.shaped (rowsD L) = true := by
  have h := lay_rows L
  unfold SeqAt.shaped
  rw [Bool.and_eq_true]
  refine ⟨by simp only [rowsD, PyData.canLay0]; exact h.1, decide_eq_true ?_⟩
  simp only [rowsD, PyData.depth]
  omega
theorem dpa_rows {K : PySem.W.Frag} {H : Hp} : ∀ {vs : List V} {L : List Rw}, Rows H vs L → DpAll K H vs (L.map rowD)
  | _, _, .nil => .nil
  | _, _, .cons ⟨_, e, h⟩ t => .cons (by rw [e]; exact dp_row (SqL.of h)) (dpa_rows t)
theorem dp_rows {K : PySem.W.Frag} {H : Hp} {a : Addr} {vs : List V} {L : List Rw} (h : SqL K H a vs) (r : Rows H vs L) : Dp K H (.ref a) (rowsD L) := .lst h (dpa_rows r)
/-- rows made since -/
def IsNw (H0 H : Hp) (v : V) (r : Rw) : Prop := ∃ b, v = .ref b ∧ Lst H b r ∧ H0 b = none
abbrev Nws (H0 H : Hp) : List V → List Rw → Prop := Paired (IsNw H0 H)
theorem IsNw.row {H0 H : Hp} {v : V} {r : Rw} (h : IsNw H0 H v r) : IsRow H v r := by
  obtain ⟨b, e, h, _⟩ := h
  exact ⟨b, e, h⟩
theorem IsNw.mono {H0 H H' : Hp} (s : Lsts H H') {v : V} {r : Rw} (h : IsNw H0 H v r) : IsNw H0 H' v r := by
  obtain ⟨b, e, h, n⟩ := h
  exact ⟨b, e, s _ _ h, n⟩
theorem Nws.mono {H0 H H' : Hp} (s : Lsts H H') {vs : List V} {L : List Rw} (h : Nws H0 H vs L) : Nws H0 H' vs L := Paired.mapP h fun _ _ q => q.mono s
theorem Nws.rows {H0 H : Hp} {vs : List V} {L : List Rw} (h : Nws H0 H vs L) : Rows H vs L := Paired.mapP h fun _ _ q => q.row
theorem pd_snoc {α β : Type} {F : α → β → Prop} : ∀ {ps : List β} {vs : List α} {p : β}, Paired F vs (ps ++ [p]) → ∃ ws v, vs = ws ++ [v] ∧ Paired F ws ps ∧ F v p
  | [], _, _, .cons h .nil => ⟨[], _, rfl, .nil, h⟩
  | _ :: ps, _, _, .cons h t => by
    obtain ⟨ws, v, e, h1, h2⟩ := pd_snoc (ps := ps) t
    exact ⟨_ :: ws, v, by rw [e]; rfl, .cons h h1, h2⟩
/-! ### the walk through all that come -/
structure EndI (ns : Rw) (M L Fd : List Rw) : Prop where
  nm : M.Nodup
  rm : ∀ x ∈ M, ∃ k, Rch ns k x
  st : ns ∈ M
  dn : ∀ r ∈ M, r ∈ L ∨ ((evs r = [] → r ∈ Fd) ∧ ∀ p ∈ evs r, behP r p ∈ M)
  nf : Fd.Nodup
  nl : L.Nodup
  lm : ∀ r ∈ L, r ∈ M ∧ r ∉ Fd
  fm : ∀ r ∈ Fd, r ∈ M ∧ evs r = []
structure EndJ (ns r : Rw) (j : Nat) (M L Fd : List Rw) : Prop where
  nm : M.Nodup
  rm : ∀ x ∈ M, ∃ k, Rch ns k x
  st : ns ∈ M
  dn : ∀ q ∈ M, q ∈ L ∨ q = r ∨ ((evs q = [] → q ∈ Fd) ∧ ∀ p ∈ evs q, behP q p ∈ M)
  nf : Fd.Nodup
  nl : L.Nodup
  lm : ∀ q ∈ L, q ∈ M ∧ q ∉ Fd
  fm : ∀ q ∈ Fd, q ∈ M ∧ evs q = []
  cm : r ∈ M
  cf : evs r = [] → r ∈ Fd
  kd : ∀ k p, k < j → (evs r)[k]? = some p → behP r p ∈ M
theorem nd_snoc {L : List Rw} {r : Rw} (h : L.Nodup) (n : r ∉ L) : (L ++ [r]).Nodup :=
  List.nodup_append.mpr ⟨h, List.nodup_cons.mpr ⟨List.not_mem_nil, List.nodup_nil⟩, fun x hx y hy e => n (by rw [List.mem_singleton] at hy; rw [← hy, ← e]; exact hx)⟩
theorem EndI.pop {ns r : Rw} {M L Fd : List Rw} (h : EndI ns M (L ++ [r]) Fd) : EndJ ns r 0 M L (if evs r = [] then Fd ++ [r] else Fd) := by
  obtain ⟨hr, hf⟩ := h.lm r (List.mem_append_right _ (List.mem_singleton.mpr rfl))
  obtain ⟨nL, _, dj⟩ := List.nodup_append.mp h.nl
  have nr : r ∉ L := fun z => dj r z r (List.mem_singleton.mpr rfl) rfl
  have sub : ∀ x ∈ Fd, x ∈ (if evs r = [] then Fd ++ [r] else Fd) := fun x hx => by
    split
    · exact List.mem_append_left _ hx
    · exact hx
  refine ⟨h.nm, h.rm, h.st, fun q hq => ?_, ?_, nL, fun q hq => ?_, fun q hq => ?_, hr, fun e => ?_, fun k p hk _ => absurd hk (by omega)⟩
  · rcases h.dn q hq with z | ⟨z1, z2⟩
    · rcases List.mem_append.mp z with z | z
      · exact .inl z
      · exact .inr (.inl (List.mem_singleton.mp z))
    · exact .inr (.inr ⟨fun e => sub q (z1 e), z2⟩)
  · split
    · exact nd_snoc h.nf hf
    · exact h.nf
  · obtain ⟨z1, z2⟩ := h.lm q (List.mem_append_left _ hq)
    refine ⟨z1, ?_⟩
    split
    · intro z
      rcases List.mem_append.mp z with z | z
      · exact z2 z
      · exact nr (by rw [← List.mem_singleton.mp z]; exact hq)
    · exact z2
  · split at hq
    · rename_i e
      rcases List.mem_append.mp hq with z | z
      · exact h.fm q z
      · rw [List.mem_singleton.mp z]
        exact ⟨hr, e⟩
    · exact h.fm q hq
  · rw [if_pos e]
    exact List.mem_append_right _ (List.mem_singleton.mpr rfl)
theorem EndJ.old {ns r : Rw} {j : Nat} {M L Fd : List Rw} {p : Pr} (h : EndJ ns r j M L Fd) (hp : (evs r)[j]? = some p) (c : behP r p ∈ M) : EndJ ns r (j + 1) M L Fd :=
  ⟨h.nm, h.rm, h.st, h.dn, h.nf, h.nl, h.lm, h.fm, h.cm, h.cf, fun k q hk hq => by
    by_cases e : k = j
    · subst e
      rw [hp] at hq
      cases hq
      exact c
    · exact h.kd k q (by omega) hq⟩
theorem EndJ.new {ns r : Rw} {j : Nat} {M L Fd : List Rw} {p : Pr} (h : EndJ ns r j M L Fd) (hp : (evs r)[j]? = some p) (c : behP r p ∉ M) : EndJ ns r (j + 1) (M ++ [behP r p]) (L ++ [behP r p]) Fd := by
  have up : ∀ x ∈ M, x ∈ M ++ [behP r p] := fun x hx => List.mem_append_left _ hx
  refine ⟨nd_snoc h.nm c, fun x hx => ?_, up _ h.st, fun q hq => ?_, h.nf, nd_snoc h.nl fun z => c (h.lm _ z).1, fun q hq => ?_, fun q hq => ⟨up _ (h.fm q hq).1, (h.fm q hq).2⟩, up _ h.cm, h.cf, fun k q hk hq => ?_⟩
  · rcases List.mem_append.mp hx with z | z
    · exact h.rm x z
    · obtain ⟨k, hk⟩ := h.rm r h.cm
      rw [List.mem_singleton.mp z]
      exact ⟨k + 1, .step hk (List.mem_of_getElem? hp)⟩
  · rcases List.mem_append.mp hq with z | z
    · rcases h.dn q z with z | z | ⟨z1, z2⟩
      · exact .inl (List.mem_append_left _ z)
      · exact .inr (.inl z)
      · exact .inr (.inr ⟨z1, fun p hp => up _ (z2 p hp)⟩)
    · exact .inl (List.mem_append_right _ z)
  · rcases List.mem_append.mp hq with z | z
    · exact ⟨up _ (h.lm q z).1, (h.lm q z).2⟩
    · refine ⟨List.mem_append_right _ z, fun z2 => ?_⟩
      rw [List.mem_singleton.mp z] at z2
      exact c (h.fm _ z2).1
  · by_cases e : k = j
    · subst e
      rw [hp] at hq
      cases hq
      exact List.mem_append_right _ (List.mem_singleton.mpr rfl)
    · exact up _ (h.kd k q (by omega) hq)
theorem EndJ.fin {ns r : Rw} {M L Fd : List Rw} (h : EndJ ns r (evs r).length M L Fd) : EndI ns M L Fd :=
  ⟨h.nm, h.rm, h.st, fun q hq => by
    rcases h.dn q hq with z | z | z
    · exact .inl z
    · refine .inr ⟨fun e => by rw [z]; exact h.cf (by rw [← z]; exact e), fun p hp => ?_⟩
      rw [z] at hp ⊢
      obtain ⟨k, hk⟩ := List.mem_iff_getElem?.mp hp
      exact h.kd k p (List.getElem?_eq_some_iff.mp hk).1 hk
    · exact .inr z, h.nf, h.nl, h.lm, h.fm⟩
def Stl (ns : Rw) (Fd : List Rw) : Prop := Fd.Nodup ∧ ∀ x, x ∈ Fd ↔ ∃ k, Rch ns k x ∧ evs x = []
theorem EndI.all {ns : Rw} {M Fd : List Rw} (h : EndI ns M [] Fd) : Stl ns Fd := by
  have dn : ∀ r ∈ M, (evs r = [] → r ∈ Fd) ∧ ∀ p ∈ evs r, behP r p ∈ M := fun r hr => by
    rcases h.dn r hr with z | z
    · cases z
    · exact z
  have all : ∀ k x, Rch ns k x → x ∈ M := fun k x hk => by
    induction hk with
    | zero => exact h.st
    | step hq hp ih => exact (dn _ ih).2 _ hp
  refine ⟨h.nf, fun x => ⟨fun hx => ?_, fun ⟨k, hk, e⟩ => (dn x (all k x hk)).1 e⟩⟩
  obtain ⟨hM, e⟩ := h.fm x hx
  obtain ⟨k, hk⟩ := h.rm x hM
  exact ⟨k, hk, e⟩
section
variable {P : Program} {w : World} {K : PySem.W.Frag} {mg : Str → Option Value} {base : Heap}
def sp_ends : Sp := fun vs H Q _ => ∃ (a : Addr) (ns : Rw), vs = [.ref a] ∧ Lst H a ns ∧ Small ns ∧
  ∀ H' p ys Fd, Same H H' → H p = none → H' p = some (.lst ys) → Nws H (hid H' [p]) ys (srt Fd) → Stl ns Fd → Q (.ref p) H'
abbrev N_ends : List Str := ["row", "found", "waiting", "met", "here", "some", "evening", "there"]
theorem ok_ends {f : Addr} {fd : FuncData} {t1 t2 : Tok} (F : Fun K "ends" "ends" s_ends f fd) (B : Blt mg) (g_FEW : mg "FEW" = some (.int 5 t1)) (g_SMALL : mg "SMALL" = some (.int 20 t2))
    (c_check_row : Cal CX0 P w K mg base "check_row" ["row", "most", "greatest"] 2 sp_check_row) (c_evenings_of : Cal CX0 P w K mg base "evenings_of" ["row"] 1 (sp_evenings_of K))
    (c_behind : Cal CX0 P w K mg base "behind" ["row", "evening"] 1 (sp_behind K)) : FnOk P w K mg base CX0 3 f fd ["row"] sp_ends := by
  refine F.ok sc_ends (fun vs H Q E h => ?_) (fun cdv A outer s H vs Q E hr h => ?_)
  · obtain ⟨a, ns, rfl, _⟩ := h
    rfl
  · obtain ⟨a, ns, rfl, hL, ok, q⟩ := h
    refine ⟨_, (pss_cons (ps_expr (pe_cal c_check_row hr (by rfl) (pa_cons (pv 0) (pa_cons (pe_glob (v := .int 5) (by rfl) g_FEW ⟨_, rfl⟩) (pa_cons (pe_glob (v := .int 20) (by rfl) g_SMALL ⟨_, rfl⟩) pa_nil)))))
    (pss_cons (ps_par3 (i := 1) (j := 2) (l := 3) rfl sc_ends.nd rfl rfl rfl (by decide) (by decide) (by decide) rfl rfl rfl (pa_cons (pe_lst pa_nil) (pa_cons (pe_lst (pa_cons (pe_callTy (r := rListOf K) call_list_of (by rfl) B.list PyProof.Rows.boot_list (pa_cons (pv 0) pa_nil)) pa_nil)) (pa_cons (pe_dispT (hu_of hr) (pe_callTy (r := rTupOf K) call_tuple_of (by rfl) B.tuple PyProof.Rows.boot_tuple (pa_cons (pv 0) pa_nil)) pe_bl) pa_nil))) (by rfl))
    (pss_cons (ps_while PassesOwn.never (pt_cmpR (r := rNeD K) (op_neD hr.units) (pv 2) (pe_lst pa_nil) (nomark _))
    (pss_cons (ps_set (i := 4) sc_ends.nd rfl (.inl rfl) (pe_bm0 PySem.F.plainAttrs_list PySem.F.slot_list_pop PySem.F.type_list_pop mt_pop (pv 2)))
      (pss_cons (ps_set (i := 5) sc_ends.nd rfl (.inl rfl) (pe_cal c_evenings_of hr (by rfl) (pa_cons (pv 4) pa_nil)))
      (pss_cons (ps_if (pt_cmpR (r := rEqD K) (op_eqD hr.units) (pv 5) (pe_lst pa_nil) (nomark _))
      (pss_one (ps_expr (pe_bm PySem.F.plainAttrs_list PySem.F.slot_list_append PySem.F.type_list_append mt_append (pv 1) (pa_cons (pv 4) pa_nil))))
      pss_nil)
      (pss_one (ps_for PassesOwn.never rfl (pi_list (pv 5)) (pg_name (i := 6) sc_ends.nd rfl (.inl rfl))
      (pss_cons (ps_set (i := 7) sc_ends.nd rfl (.inl rfl) (pe_cal c_behind hr (by rfl) (pa_cons (pv 4) (pa_cons (pv 6) pa_nil))))
        (pss_one (ps_if (pt_cmp (pc_dnotin (hu_of hr) (pe_callTy (r := rTupOf K) call_tuple_of (by rfl) B.tuple PyProof.Rows.boot_tuple (pa_cons (pv 7) pa_nil)) (pv 3)))
        (pss_cons (ps_dput (hu_of hr) (pv 3) (pe_callTy (r := rTupOf K) call_tuple_of (by rfl) B.tuple PyProof.Rows.boot_tuple (pa_cons (pv 7) pa_nil)) pe_bl rfl)
          (pss_one (ps_expr (pe_bm PySem.F.plainAttrs_list PySem.F.slot_list_append PySem.F.type_list_append mt_append (pv 2) (pa_cons (pv 7) pa_nil)))))
        pss_nil)))))))))
    (pss_one (ps_ret (pe_callB (cr_sortRows (room65 hr)) (by rfl) B.sorted PyProof.Rows.boot_sorted (pa_cons (pv 1) pa_nil))))))), ?_⟩
    refine ⟨.ref a, rfl, a, ns, 5, 20, rfl, hL, by have := ok.len5; omega, ok, fun H1 s1 => ?_⟩
    have hL1 := hL.mono s1
    refine ⟨Nat.zero_le _, fun fo hfo => ?_⟩
    have a1 : Same H1 (upd H1 fo (.lst [])) := same_new hfo
    have hfo2 : (upd H1 fo (.lst [])) fo = some (.lst []) := upd_same
    have hfoH : H fo = none := s1.free hfo
    generalize upd H1 fo (.lst []) = H2 at a1 hfo2
    refine ⟨.ref a, rfl, a, _, rfl, .inl (hL1.mono a1).sq, fun b0 hb0 => ?_⟩
    have a2 : Same H2 (upd H2 b0 (.lst (ns.map V.int))) := same_new hb0
    have hb02 : Lst (upd H2 b0 (.lst (ns.map V.int))) b0 ns := upd_same
    have hb0H : H b0 = none := (s1.trans a1).free hb0
    have nb0 : b0 ≠ fo := (ne_of_none hfo2 hb0).symm
    generalize upd H2 b0 (.lst (ns.map V.int)) = H3 at a2 hb02
    refine ⟨(by show 1 ≤ sizeLine; decide), fun wa hwa => ?_⟩
    have a3 : Same H3 (upd H3 wa (.lst [.ref b0])) := same_new hwa
    have hwa4 : (upd H3 wa (.lst [.ref b0])) wa = some (.lst [.ref b0]) := upd_same
    have hwaH : H wa = none := ((s1.trans a1).trans a2).free hwa
    have nbw : b0 ≠ wa := ne_of_none hb02 hwa
    have nfw : fo ≠ wa := ne_of_none (a2 _ _ hfo2) hwa
    have hfo4 := a3 _ _ (a2 _ _ hfo2)
    have hb04 := hb02.mono a3
    have s4 : Same H (upd H3 wa (.lst [.ref b0])) := ((s1.trans a1).trans a2).trans a3
    generalize upd H3 wa (.lst [.ref b0]) = H4 at a3 hwa4 hfo4 hb04 s4
    refine fun me hme => ?_
    have hmeH : H me = none := s4.free hme
    have a4 : Same H4 (upd H4 me (.dT [])) := same_new hme
    refine ⟨.ref a, rfl, a, _, rfl, .inl ⟨((hL.mono s4).mono a4).sq, fun t ht => ?_⟩⟩
    have a5 : Same (upd H4 me (.dT [])) (upd (upd H4 me (.dT [])) t (.tup (ns.map V.int))) := same_new ht
    have hme5 := a5 _ _ (show (upd H4 me (.dT [])) me = some (.dT []) from upd_same)
    refine ⟨t, rowKey ns, rfl, hme5, by rw [rowKey_V]; exact upd_same, _, _, _, rfl, ?_⟩
    have l6 : Lsts H4 (upd (upd (upd H4 me (.dT [])) t (.tup (ns.map V.int))) me (.dT [(rowKey ns, .bl true)])) := (Same.lsts (a4.trans a5)).trans (lsts_dT hme5)
    have s6 : Same H (upd (upd (upd H4 me (.dT [])) t (.tup (ns.map V.int))) me (.dT [(rowKey ns, .bl true)])) := same_upd2 ((s4.trans a4).trans a5) hmeH
    have hme6 : (upd (upd (upd H4 me (.dT [])) t (.tup (ns.map V.int))) me (.dT [(rowKey ns, .bl true)])) me = some (.dT (dRows [ns])) := upd_same
    generalize upd (upd (upd H4 me (.dT [])) t (.tup (ns.map V.int))) me (.dT [(rowKey ns, .bl true)]) = H6 at l6 s6 hme6
    refine ⟨fun m σ H' => ∃ fv wv Fd L M y4 y5 y6 y7, m + M.length = 4084102 + L.length ∧ σ = [some (.ref a), some (.ref fo), some (.ref wa), some (.ref me), y4, y5, y6, y7] ∧ Same H H' ∧ H' fo = some (.lst fv) ∧ H' wa = some (.lst wv) ∧
        H' me = some (.dT (dRows M)) ∧ Nws H (hid H' [fo, wa]) fv Fd ∧ Nws H (hid H' [fo, wa]) wv L ∧ EndI ns M L Fd,
      ⟨4084102, [], [.ref b0], [], [ns], [ns], none, none, none, none, rfl, rfl, s6, l6 _ _ hfo4, l6 _ _ hwa4, hme6, .nil, .cons ⟨b0, rfl, ?_, hb0H⟩ .nil, ?_⟩, fun m σ H7 h => ?_⟩
    · unfold Lst
      rw [hid_out (by simp [nb0, nbw])]
      exact l6 _ _ hb04
    · refine ⟨List.nodup_cons.mpr ⟨List.not_mem_nil, List.nodup_nil⟩, fun x hx => ?_, List.mem_singleton.mpr rfl, fun r hr => .inl hr, List.nodup_nil, List.nodup_cons.mpr ⟨List.not_mem_nil, List.nodup_nil⟩, fun r hr => ⟨hr, List.not_mem_nil⟩, fun r hr => nomatch hr⟩
      rw [List.mem_singleton.mp hx]
      exact ⟨0, .zero _⟩
    · obtain ⟨fv, wv, Fd, L, M, y4, y5, y6, y7, em, rfl, s7, hfo7, hwa7, hme7, nf7, nw7, ei⟩ := h
      refine ⟨.ref wa, rfl, Nat.zero_le _, fun z hz => ?_⟩
      have b1 : Same H7 (upd H7 z (.lst [])) := same_new hz
      have hs := Same.lsts (hid_same H7 [fo, wa])
      refine ⟨rowsD L, rowsD [], dp_rows (SqL.of (b1 _ _ hwa7)) ((nw7.mono hs).mono (Same.lsts b1)).rows, .lst (SqL.of upd_same) .nil, shaped_rows _, shaped_rows _, _, rfl, ?_⟩
      rw [eqv_rows]
      have s8 : Same H (upd H7 z (.lst [])) := s7.trans b1
      have hfo8 := b1 _ _ hfo7
      have hwa8 := b1 _ _ hwa7
      have hme8 := b1 _ _ hme7
      have nf8 := nf7.mono (Same.lsts (hid_mono (xs := [fo, wa]) b1))
      have nw8 := nw7.mono (Same.lsts (hid_mono (xs := [fo, wa]) b1))
      generalize upd H7 z (.lst []) = H8 at s8 hfo8 hwa8 hme8 nf8 nw8
      by_cases ce : L = []
      · subst ce
        refine itN (by simp) ?_
        refine ⟨.ref fo, rfl, fo, fv, Fd, _, rfl, SqL.of hfo8, nf8.mono (Same.lsts (hid_same _ _)), fun v r h => h.row, fun ys p hp pr => ?_⟩
        refine q _ p ys Fd (s8.trans (same_new hp)) (s8.free hp) upd_same (Paired.mapP pr fun v r h => ?_) ei.all
        obtain ⟨b, e, hb, nb⟩ := h
        refine ⟨b, e, ?_, nb⟩
        have nbp : b ≠ p := ne_of_none hb hp
        unfold Lst
        rw [hid_out (by simp [nbp]), upd_ne nbp]
        exact hb
      · refine itP (by rw [decide_eq_false ce]; rfl) ?_
        refine ⟨fun σ' H' => ∃ m', m' < m ∧ ∃ fv wv Fd L M y4 y5 y6 y7, m' + M.length = 4084102 + L.length ∧ σ' = [some (.ref a), some (.ref fo), some (.ref wa), some (.ref me), y4, y5, y6, y7] ∧ Same H H' ∧ H' fo = some (.lst fv) ∧ H' wa = some (.lst wv) ∧
          H' me = some (.dT (dRows M)) ∧ Nws H (hid H' [fo, wa]) fv Fd ∧ Nws H (hid H' [fo, wa]) wv L ∧ EndI ns M L Fd, fun σ' H' h => h, ?_⟩
        obtain ⟨L0, r, rfl⟩ : ∃ L0 r, L = L0 ++ [r] := ⟨L.dropLast, L.getLast ce, (List.dropLast_concat_getLast ce).symm⟩
        obtain ⟨w0, v, rfl, nw0, b, rfl, hb, hbH⟩ := pd_snoc nw8
        have cM := count_le ok ei.nm ei.rm
        -- pop
        refine ⟨.ref wa, rfl, .inl ⟨rfl, _, SqL.of hwa8⟩, wa, _, .ref b, rfl, rfl, hwa8, by simp, ?_⟩
        rw [List.dropLast_concat]
        have ls9 : Same (hid H8 [fo, wa]) (hid (upd H8 wa (.lst w0)) [fo, wa]) := by rw [hid_upd (by simp)]; exact Same.refl _
        have s9 : Same H (upd H8 wa (.lst w0)) := same_upd2 s8 hwaH
        have hwa9 : (upd H8 wa (.lst w0)) wa = some (.lst w0) := upd_same
        have hfo9 : (upd H8 wa (.lst w0)) fo = some (.lst fv) := by rw [upd_ne nfw]; exact hfo8
        have hme9 : (upd H8 wa (.lst w0)) me = some (.dT (dRows M)) := by rw [upd_ne (ne_of hme8 hwa8 (by intro z; cases z))]; exact hme8
        have nf9 := nf8.mono (Same.lsts ls9)
        have nw9 := Nws.mono (Same.lsts ls9) nw0
        have hb9 : Lst (hid (upd H8 wa (.lst w0)) [fo, wa]) b r := ls9 _ _ hb
        generalize upd H8 wa (.lst w0) = H9 at s9 hwa9 hfo9 hme9 nf9 nw9 hb9
        have hb9' : Lst H9 b r := hid_same _ _ _ _ hb9
        obtain ⟨k0, rch⟩ := ei.rm r (ei.lm r (List.mem_append_right _ (List.mem_singleton.mpr rfl))).1
        have okr : Small r := rch.ok ok
        have ej := ei.pop
        -- evenings
        refine ⟨.ref b, rfl, b, r, rfl, hb9'.sq, okr.row12, fun HA p we sA hp hwe pe => ?_⟩
        have lsA := Same.lsts (hid_mono (xs := [fo, wa]) sA)
        have sHA := s9.trans sA
        have hfoA := sA _ _ hfo9
        have hwaA := sA _ _ hwa9
        have hmeA := sA _ _ hme9
        have nfA := nf9.mono lsA
        have nwA := nw9.mono lsA
        have hbA : Lst (hid HA [fo, wa]) b r := lsA _ _ hb9
        have npf : p ≠ fo := (ne_of_none hfo9 hp).symm
        have npw : p ≠ wa := (ne_of_none hwa9 hp).symm
        refine ⟨.ref p, rfl, Nat.zero_le _, fun z2 hz2 => ?_⟩
        have sB : Same HA (upd HA z2 (.lst [])) := same_new hz2
        refine ⟨prsD (evs r), prsD [], dp_prs (SqL.of (sB _ _ hwe)) (pe.mono (Same.tups sB)), dp_prs (SqL.of upd_same) .nil, shaped_prs _, shaped_prs _, _, rfl, ?_⟩
        rw [eqv_prs]
        have lsB := Same.lsts (hid_mono (xs := [fo, wa]) sB)
        have sHB := sHA.trans sB
        have hfoB := sB _ _ hfoA
        have hwaB := sB _ _ hwaA
        have hmeB := sB _ _ hmeA
        have nfB := nfA.mono lsB
        have nwB := nwA.mono lsB
        have hbB : Lst (hid (upd HA z2 (.lst [])) [fo, wa]) b r := lsB _ _ hbA
        have hweB := sB _ _ hwe
        have peB := pe.mono (Same.tups sB)
        generalize upd HA z2 (.lst []) = HB at sHB hfoB hwaB hmeB nfB nwB hbB hweB peB
        have lF : fv.length = Fd.length := pd_len nfB
        have cF : Fd.length ≤ 4084101 := count_le ok ei.nf fun x hx => ei.rm x (ei.fm x hx).1
        obtain ⟨FdC, eFd⟩ : ∃ z, z = (if evs r = [] then Fd ++ [r] else Fd) := ⟨_, rfl⟩
        rw [← eFd] at ej
        rw [List.length_append] at em
        have em2 : m + M.length = 4084103 + L0.length := by
          have e1 : [r].length = 1 := rfl
          omega
        by_cases cv : evs r = []
        case' pos =>
          refine itP (decide_eq_true cv) ?_
          refine ⟨.ref fo, rfl, .inl ⟨rfl, _, SqL.of hfoB⟩, .ref b, rfl, fo, fv, _, rfl, rfl, hfoB, lineB (by omega), ?_⟩
          have eF2 : FdC = Fd ++ [r] := by rw [eFd, if_pos cv]
          have hh : hid (upd HB fo (.lst (fv ++ [.ref b]))) [fo, wa] = hid HB [fo, wa] := hid_upd (by simp)
          have sC : Same H (upd HB fo (.lst (fv ++ [.ref b]))) := same_upd2 sHB hfoH
          have hfoC : (upd HB fo (.lst (fv ++ [.ref b]))) fo = some (.lst (fv ++ [.ref b])) := upd_same
          have hwaC : (upd HB fo (.lst (fv ++ [.ref b]))) wa = some (.lst w0) := by rw [upd_ne nfw.symm]; exact hwaB
          have hmeC : (upd HB fo (.lst (fv ++ [.ref b]))) me = some (.dT (dRows M)) := by rw [upd_ne (ne_of hmeB hfoB (by intro z; cases z))]; exact hmeB
          have nfC : Nws H (hid (upd HB fo (.lst (fv ++ [.ref b]))) [fo, wa]) (fv ++ [.ref b]) FdC := by
            rw [hh, eF2]
            exact pd_app nfB (.cons ⟨b, rfl, hbB, hbH⟩ .nil)
          have nwC : Nws H (hid (upd HB fo (.lst (fv ++ [.ref b]))) [fo, wa]) w0 L0 := by
            rw [hh]
            exact nwB
          have hbC : Lst (hid (upd HB fo (.lst (fv ++ [.ref b]))) [fo, wa]) b r := by
            rw [hh]
            exact hbB
          have hweC : (upd HB fo (.lst (fv ++ [.ref b]))) p = some (.lst we) := by rw [upd_ne npf]; exact hweB
          have peC := peB.mono (tups_lst (o := .lst (fv ++ [.ref b])) hfoB)
          generalize fv ++ [.ref b] = fvC at *
          generalize upd HB fo (.lst fvC) = HC at *
        case' neg =>
          refine itN (by rw [decide_eq_false cv]; decide) ?_
          have eF2 : FdC = Fd := by rw [eFd, if_neg cv]
          have sC := sHB
          have hfoC := hfoB
          have hwaC := hwaB
          have hmeC := hmeB
          have nfC : Nws H (hid HB [fo, wa]) fv FdC := by rw [eF2]; exact nfB
          have nwC := nwB
          have hbC := hbB
          have hweC := hweB
          have peC := peB
          generalize fv = fvC at *
          generalize HB = HC at *
        all_goals
          refine ⟨.ref p, rfl, p, rfl, ⟨_, SqL.of hweC⟩, for_list (K := K) (a := p) (xs := we)
            (fun j σ H' => ∃ wv L M y6 y7, σ = [some (.ref a), some (.ref fo), some (.ref wa), some (.ref me), some (.ref b), some (.ref p), y6, y7] ∧ Same H H' ∧ H' fo = some (.lst fvC) ∧ H' wa = some (.lst wv) ∧ H' me = some (.dT (dRows M)) ∧
              Nws H (hid H' [fo, wa]) fvC FdC ∧ Nws H (hid H' [fo, wa]) wv L ∧ Lst (hid H' [fo, wa]) b r ∧ H' p = some (.lst we) ∧ Prs H' we (evs r) ∧ EndJ ns r j M L FdC ∧ m + M.length = 4084103 + L.length)
            ⟨w0, L0, M, _, _, rfl, sC, hfoC, hwaC, hmeC, nfC, nwC, hbC, hweC, peC, ej, em2⟩ (fun j σ H' _ h => ?_) (fun j x σ HD hx h => ?_) (fun σ HD h => ?_)⟩
          · obtain ⟨_, _, _, _, _, _, _, _, _, _, _, _, _, hpp, _⟩ := h
            exact SqL.of hpp
          · obtain ⟨wv, L, M, y6, y7, rfl, sD, hfoD, hwaD, hmeD, nfD, nwD, hbD, hpD, peD, ejD, emD⟩ := h
            obtain ⟨pp, hpp, tt, rfl, htt⟩ := prs_at peD hx
            have hpe := List.mem_of_getElem? hpp
            obtain ⟨i1, j1, epp, hij, hj1, hgd⟩ := mem_evs.mp hpe
            have hbD' : Lst HD b r := hid_same _ _ _ _ hbD
            refine ⟨.ref b, rfl, .ref tt, rfl, b, tt, r, i1, j1, rfl, hbD'.sq, ?_, by omega, hj1, okr.row12, fun HE th sE hth hTh => ?_⟩
            · rw [epp] at htt
              exact SqT.of htt
            have eb : beh r i1 j1 = behP r pp := by rw [epp]; rfl
            rw [eb] at hTh
            have cM2 : M.length ≤ 4084101 := count_le ok ejD.nm ejD.rm
            have nthf : th ≠ fo := (ne_of_none hfoD hth).symm
            have nthw : th ≠ wa := (ne_of_none hwaD hth).symm
            have hthH : H th = none := sD.free hth
            refine ⟨.ref th, rfl, th, _, rfl, .inl ⟨hTh.sq, fun t3 ht3 => ?_⟩⟩
            have sF : Same HE (upd HE t3 (.tup ((behP r pp).map V.int))) := same_new ht3
            have ht3F : (upd HE t3 (.tup ((behP r pp).map V.int))) t3 = some (.tup ((rowKey (behP r pp)).map kV)) := by rw [rowKey_V]; exact upd_same
            have sDF : Same HD (upd HE t3 (.tup ((behP r pp).map V.int))) := sE.trans sF
            have hThF := hTh.mono sF
            generalize upd HE t3 (.tup ((behP r pp).map V.int)) = HF at sF ht3F sDF hThF
            have hmeF := sDF _ _ hmeD
            have lsF := Same.lsts (hid_mono (xs := [fo, wa]) sDF)
            refine ⟨.ref me, rfl, me, _, rfl, DGet.t (k := rowKey (behP r pp)) hmeF ht3F, _, rfl, ?_⟩
            rw [val_dRows]
            by_cases cN : behP r pp ∈ M
            · refine itN (by rw [decide_eq_true cN]; decide) ?_
              exact ⟨wv, L, M, _, _, rfl, sD.trans sDF, sDF _ _ hfoD, sDF _ _ hwaD, hmeF, nfD.mono lsF, nwD.mono lsF, lsF _ _ hbD, sDF _ _ hpD, peD.mono (Same.tups sDF), ejD.old hpp cN, emD⟩
            · refine itP (by rw [decide_eq_false cN]; rfl) ?_
              refine ⟨.ref me, rfl, .ref th, rfl, th, _, rfl, .inl ⟨hThF.sq, fun t4 ht4 => ?_⟩⟩
              have sG : Same HF (upd HF t4 (.tup ((behP r pp).map V.int))) := same_new ht4
              refine ⟨me, _, rfl, DPut.t (k := rowKey (behP r pp)) (sG _ _ hmeF) (by rw [rowKey_V]; exact upd_same) (lineB (by rw [dRows_length]; omega)), ?_⟩
              rw [put_dRows]
              have hmeG := sG _ _ hmeF
              have sHG := (sD.trans sDF).trans sG
              have sDG := sDF.trans sG
              have hThG := hThF.mono sG
              generalize upd HF t4 (.tup ((behP r pp).map V.int)) = HG at hmeG sHG sDG hThG
              have lI : Lsts HG (upd HG me (.dT (dRows (ins M (behP r pp))))) := lsts_dT hmeG
              have tI : TupS HG (upd HG me (.dT (dRows (ins M (behP r pp))))) := tups_dT hmeG
              have sI : Same H (upd HG me (.dT (dRows (ins M (behP r pp))))) := same_upd2 sHG hmeH
              have hmeI : (upd HG me (.dT (dRows (ins M (behP r pp))))) me = some (.dT (dRows (ins M (behP r pp)))) := upd_same
              have eM : ins M (behP r pp) = M ++ [behP r pp] := if_neg cN
              rw [eM] at hmeI lI tI sI ⊢
              generalize upd HG me (.dT (dRows (M ++ [behP r pp]))) = HI at lI tI sI hmeI
              have lDI : Lsts HD HI := (Same.lsts sDG).trans lI
              have hwaI := lDI _ _ hwaD
              have hfoI := lDI _ _ hfoD
              have hThI : Lst HI th (behP r pp) := lI _ _ hThG
              have lwv : wv.length = L.length := pd_len nwD
              have cL : L.length ≤ 4084101 := count_le ok ejD.nl fun x hx => ejD.rm x (ejD.lm x hx).1
              refine ⟨.ref wa, rfl, .inl ⟨rfl, _, SqL.of hwaI⟩, .ref th, rfl, wa, wv, _, rfl, rfl, hwaI, lineB (by omega), ?_⟩
              have hh2 : hid (upd HI wa (.lst (wv ++ [.ref th]))) [fo, wa] = hid HI [fo, wa] := hid_upd (by simp)
              have lsI := hid_lsts (xs := [fo, wa]) lDI
              refine ⟨wv ++ [.ref th], L ++ [behP r pp], M ++ [behP r pp], _, _, rfl, same_upd2 sI hwaH, by rw [upd_ne nfw]; exact hfoI, upd_same, by rw [upd_ne (ne_of hmeI hwaI (by intro z; cases z))]; exact hmeI, ?_, ?_, ?_, by rw [upd_ne npw]; exact lDI _ _ hpD, (peD.mono ((Same.tups sDG).trans tI)).mono (tups_lst hwaI), ejD.new hpp cN, ?_⟩
              · rw [hh2]
                exact nfD.mono lsI
              · rw [hh2]
                refine pd_app (nwD.mono lsI) (.cons ⟨th, rfl, ?_, hthH⟩ .nil)
                unfold Lst
                rw [hid_out (by simp [nthf, nthw])]
                exact hThI
              · rw [hh2]
                exact lsI _ _ hbD
              · rw [List.length_append, List.length_append]
                show m + (M.length + 1) = 4084103 + (L.length + 1)
                omega
          · obtain ⟨wv, L, M, y6, y7, rfl, sD, hfoD, hwaD, hmeD, nfD, nwD, hbD, hpD, peD, ejD, emD⟩ := h
            rw [pd_len peD] at ejD
            exact ⟨m - 1, by omega, fvC, wv, FdC, L, M, _, _, _, _, by omega, rfl, sD, hfoD, hwaD, hmeD, nfD, nwD, ejD.fin⟩
end
end EG

/-! check_row, of a row or of none: what is refused. -/
namespace EG
open PySem L2
/-- a class of the program's own refusals -/
structure XcF (K : PySem.W.Frag) (C : Addr) : Prop where
  x : PySem.W.excIn K C [.type "ValueError", .type "Exception", .type "BaseException", .type "object"] "ValueError.__new__" = true
  k : PySem.W.keepIn K (.ref C) = true
  b : PySem.W.subIn K (.ref C) (.type "BaseException") = some true
  t : PySem.W.typeIn K (.ref C) = some (.type "type")
/-- a value that is of no such built-in class, whatever comes -/
def NotTy (K : PySem.W.Frag) (H : Hp) (v : V) (T : String) : Prop := ∃ t, (∀ H', LamX.ExtN H H' → TyX K H' v t) ∧ PySem.W.kitOne K t (.type T) = some false
/-- an item: does it count as a number from 0 to g -/
def ItemOk (K : PySem.W.Frag) (H : Hp) (g : Int) (x : V) (b : Bool) : Prop := (b = false ∧ ∀ H', LamX.ExtN H H' → Whole K H' x false) ∨ ∃ n : Int, x = .int n ∧ b = decide (0 ≤ n ∧ n ≤ g)
theorem ItemOk.ext {K : PySem.W.Frag} {H H1 : Hp} {g : Int} {x : V} {b : Bool} (s : LamX.ExtN H H1) (h : ItemOk K H g x b) : ItemOk K H1 g x b := by
  rcases h with ⟨e, h⟩ | h
  · exact .inl ⟨e, fun H' s' => h H' (s.trans s')⟩
  · exact .inr h
theorem ItemOk.mono {K : PySem.W.Frag} {H H1 : Hp} {g : Int} {x : V} {b : Bool} (s : Same H H1) (h : ItemOk K H g x b) : ItemOk K H1 g x b := h.ext (.of s)
def RowBad (K : PySem.W.Frag) (H : Hp) (m g : Int) (v : V) : Prop := NotTy K H v "list" ∨ ∃ (a : Addr) (xs : List V), v = .ref a ∧ H a = some (.lst xs) ∧ xs.length ≤ 900 ∧
  (¬ (1 ≤ (xs.length : Int) ∧ (xs.length : Int) ≤ m) ∨ (1 ≤ (xs.length : Int) ∧ (xs.length : Int) ≤ m ∧ ∃ bs : List Bool, Paired (ItemOk K H g) xs bs ∧ bs.all id = false))
section
variable {P : Program} {w : World} {K : PySem.W.Frag} {mg : Str → Option Value} {base : Heap}
def sp_check_rowX (K : PySem.W.Frag) (CB : Addr) : Sp := fun vs H Q E => ∃ (v : V) (m g : Int), vs = [v, .int m, .int g] ∧
  ((∃ (a : Addr) (ns : List Int), v = .ref a ∧ Lst H a ns ∧ ns.length ≤ 900 ∧ RowOk ns m g ∧ ∀ H', Same H H' → Q .non H') ∨ (RowBad K H m g v ∧ ∀ H', Same H H' → E (.ref CB) none H'))
theorem rowOk_items {K : PySem.W.Frag} {H : Hp} {g : Int} : ∀ {ns : List Int}, (∀ x ∈ ns, 0 ≤ x ∧ x ≤ g) → Paired (ItemOk K H g) (ns.map V.int) (List.replicate ns.length true)
  | [], _ => .nil
  | n :: ns, h => by
    rw [List.map_cons, List.length_cons, List.replicate_succ]
    exact .cons (.inr ⟨n, rfl, (decide_eq_true (h n List.mem_cons_self)).symm⟩) (rowOk_items fun x hx => h x (List.mem_cons_of_mem _ hx))
theorem pdv_at {α β : Type} {F : α → β → Prop} : ∀ {vs : List α} {ps : List β} {i : Nat} {v : α}, Paired F vs ps → vs[i]? = some v → ∃ p, ps[i]? = some p ∧ F v p
  | _, _, _, _, .nil, e => by simp at e
  | _, _, 0, _, .cons r _, e => by simp at e; subst e; exact ⟨_, rfl, r⟩
  | _, _, i + 1, v, .cons _ t, e => by
    obtain ⟨p, h1, h2⟩ := pdv_at (i := i) (v := v) t (by simpa using e)
    exact ⟨p, by simpa using h1, h2⟩
theorem ok_check_rowX {f CB : Addr} {fd : FuncData} (F : Fun K "check_row" "check_row" s_check_row f fd) (B : Blt mg) (gB : mg "BadRow" = some (.ref CB)) (xB : XcF K CB) (cW : Cal CX0 P w K mg base "is_whole" ["thing"] 1 (sp_is_whole K)) :
    FnOk P w K mg base (L2.CX P w) 2 f fd ["row", "most", "greatest"] (sp_check_rowX K CB) := by
  refine F.okX sc_check_row (fun vs H Q E h => ?_) (fun cdv A outer s H vs Q E hr h => ?_)
  · obtain ⟨v, m, g, rfl, _⟩ := h
    rfl
  · obtain ⟨v, m, g, rfl, h⟩ := h
    refine ⟨_, pss_cons (ps_if (PW.pt (pw_or (pt_not (pt_val (pe_callB (r := rIsi K) call_isi (by rfl) B.isi PyProof.Rows.boot_isinstance (pa_cons (pv 0) (pa_cons (pe_bltn (v := .ty "list") (by rfl) B.list PyProof.Rows.boot_list rfl) pa_nil)))))
          (pw_or1 (pt_not (pt_chain op_le op_le pe_int (pe_callB call_len_seq (by rfl) B.len PySem.boot_len (pa_cons (pv 0) pa_nil)) (pv 1))))))
        (pss_one (ps_raise rfl (takes_of rfl rfl rfl rfl) (pmk_own PySem.F.excBase_ValueError xB.x gB xB.k (raises_own xB.b xB.t) rfl))) pss_nil)
      (pss_one (ps_if (pt_not (pt_val (pe_callB (r := rAll K) (cr_all rfl) (by rfl) B.all PyProof.Rows.boot_all (pa_cons
          (pe_lc (own := [("one", 3)]) (g := gName 3) (tt := tYes) rfl sc_check_row.nd (pi_list (pv 0)) (blkOk_by (N := ["row", "most", "greatest", "one"]) (sc := defScope s_check_row) (by decide +kernel))
            (fun _ _ _ _ _ => pg_name (i := 3) sc_check_row.nd rfl (Or.inl rfl)) (fun _ _ _ _ _ => pts_nil)
            (fun _ _ _ _ _ => pe_and (pe_cal cW hr (by rfl) (pa_cons (pv 3) pa_nil)) (pe_one (pe_chain op_le op_le pe_int (pv 3) (pv 2))))) pa_nil))))
        (pss_one (ps_raise rfl (takes_of rfl rfl rfl rfl) (pmk_own PySem.F.excBase_ValueError xB.x gB xB.k (raises_own xB.b xB.t) rfl))) pss_nil)), ?_⟩
    -- not a list, or a list
    have go : (NotTy K H v "list" ∧ E (.ref CB) none H) ∨ ∃ (a : Addr) (xs : List V), v = .ref a ∧ H a = some (.lst xs) ∧ xs.length ≤ 900 ∧
        ((¬ (1 ≤ (xs.length : Int) ∧ (xs.length : Int) ≤ m) ∧ E (.ref CB) none H) ∨ (1 ≤ (xs.length : Int) ∧ (xs.length : Int) ≤ m ∧ ∃ bs : List Bool, Paired (ItemOk K H g) xs bs ∧ ∀ H', Same H H' → if bs.all id = true then Q .non H' else E (.ref CB) none H')) := by
      rcases h with ⟨a, ns, ev, hL, hl, ⟨h1, h2, h3⟩, q⟩ | ⟨hb, e⟩
      · refine .inr ⟨a, _, ev, hL, by rw [List.length_map]; exact hl, .inr ⟨by rw [List.length_map]; omega, by rw [List.length_map]; exact h2, _, rowOk_items h3, fun H' s' => ?_⟩⟩
        rw [all_rep, if_pos rfl]
        exact q H' s'
      · rcases hb with hn | ⟨a, xs, ev, hL, hl, h | ⟨h1, h2, bs, hp, hb⟩⟩
        · exact .inl ⟨hn, e H (Same.refl _)⟩
        · exact .inr ⟨a, xs, ev, hL, hl, .inl ⟨h, e H (Same.refl _)⟩⟩
        · refine .inr ⟨a, xs, ev, hL, hl, .inr ⟨h1, h2, bs, hp, fun H' s' => ?_⟩⟩
          rw [hb, if_neg (by decide)]
          exact e H' s'
    clear h
    rcases go with ⟨⟨t, ht, hk⟩, e⟩ | ⟨a, xs, ev, hL, hl, h⟩
    · exact ⟨v, rfl, _, _, _, _, false, rfl, .ty _, ht H (LamX.ExtN.refl _), hk, false, rfl, iteT e⟩
    · subst ev
      refine ⟨.ref a, rfl, _, _, _, _, true, rfl, .ty _, .base (.lst hL), kit_ty (by decide +kernel), true, rfl, iteF ?_⟩
      refine ⟨.ref a, rfl, a, _, rfl, .inl (SqL.of hL), _, _, rfl, rfl, _, rfl, ?_⟩
      rcases h with ⟨hn, e⟩ | ⟨h1, h2, bs, hp, q⟩
      · by_cases c1 : (1 : Int) ≤ (xs.length : Int)
        · have c2 : ¬ (xs.length : Int) ≤ m := fun z => hn ⟨c1, z⟩
          refine itP (decide_eq_true c1) ⟨.int m, rfl, _, _, rfl, rfl, _, rfl, itP (by rw [decide_eq_false c2]; rfl) e⟩
        · refine itN (by rw [decide_eq_false c1]; decide) ⟨_, rfl, itP (by first | rfl | (rw [decide_eq_false c1]; rfl)) e⟩
      · refine itP (decide_eq_true h1) ⟨.int m, rfl, _, _, rfl, rfl, _, rfl, itN (by rw [decide_eq_true h2]; decide) ?_⟩
        have lb : xs.length = bs.length := Paired.length hp
        refine ⟨.ref a, rfl, a, rfl, ⟨_, SqL.of hL⟩, fun D hD => lc_list (K := K) (a := a) (xs := xs)
          (fun i H' => Same H H' ∧ H' D = some (.lst ((bs.take i).map V.bl))) ⟨same_new hD, upd_same⟩ (fun i H' _ h => SqL.of (h.1 _ _ hL)) (fun i x H' hx h => ?_) (fun H' h => ?_)⟩
        · obtain ⟨b, hbi, io⟩ := pdv_at hp hx
          have hil := (List.getElem?_eq_some_iff.mp hx).1
          have put : ∀ z : Bool, z = b → ∃ acc, H' D = some (.lst acc) ∧ acc.length < sizeLine ∧ Same H (upd H' D (.lst (acc ++ [V.bl z]))) ∧ (upd H' D (.lst (acc ++ [V.bl z]))) D = some (.lst ((bs.take (i + 1)).map V.bl)) := fun z ez => by
            refine ⟨_, h.2, small1000 (by rw [List.length_map, List.length_take]; omega), fun b2 o e => ?_, ?_⟩
            · rw [upd_ne (ne_of_none e hD)]
              exact h.1 b2 o e
            · rw [upd_same, List.take_add_one, hbi, List.map_append, ez]
              rfl
          rcases io with ⟨eb, hw⟩ | ⟨n, rfl, eb⟩
          · refine ⟨rfl, iteT (B := True) ⟨x, rfl, _, false, rfl, hw _ (.of h.1), false, rfl, iteF ?_⟩⟩
            exact put false eb.symm
          · refine ⟨rfl, iteT (B := True) ⟨.int n, rfl, _, true, rfl, whole_int n, true, rfl, iteT ⟨.int n, rfl, _, _, rfl, rfl, _, rfl, ?_⟩⟩⟩
            by_cases c1 : (0 : Int) ≤ n
            · refine itP (decide_eq_true c1) ⟨.int g, rfl, _, _, rfl, rfl, ?_⟩
              refine put _ ?_
              rw [eb]
              by_cases c2 : n ≤ g <;> simp [c1, c2]
            · refine itN (by rw [decide_eq_false c1]; decide) ?_
              have e0 : decide ((0 : Int) ≤ n) = false := decide_eq_false c1
              first
                | exact put _ (by rw [eb]; simp [c1])
                | exact put false (by rw [eb]; simp [c1])
        · have e := q H' h.1
          have hD2 := h.2
          rw [lb, List.take_length] at hD2
          refine ⟨D, bs, rfl, SqL.of hD2, _, rfl, ?_⟩
          cases cb : bs.all id with
          | true =>
            rw [cb, if_pos rfl] at e
            exact itN (by decide) e
          | false =>
            rw [cb, if_neg (by decide)] at e
            exact itP (by decide) e
end
end EG

/-! The doors, with what they refuse. -/
namespace EG
open PySem L2
def Wh (K : PySem.W.Frag) (H : Hp) (x : V) (b : Bool) : Prop := ∀ H', LamX.ExtN H H' → Whole K H' x b
theorem Wh.int {K : PySem.W.Frag} {H : Hp} (i : Int) : Wh K H (.int i) true := fun _ _ => whole_int i
theorem NotTy.ext {K : PySem.W.Frag} {H H1 : Hp} {v : V} {T : String} (s : LamX.ExtN H H1) (h : NotTy K H v T) : NotTy K H1 v T := by
  obtain ⟨t, h1, h2⟩ := h
  exact ⟨t, fun H' s' => h1 H' (s.trans s'), h2⟩
theorem Wh.ext {K : PySem.W.Frag} {H H1 : Hp} {x : V} {b : Bool} (s : LamX.ExtN H H1) (h : Wh K H x b) : Wh K H1 x b := fun H' s' => h H' (s.trans s')
theorem NotTy.mono {K : PySem.W.Frag} {H H1 : Hp} {v : V} {T : String} (s : Same H H1) (h : NotTy K H v T) : NotTy K H1 v T := h.ext (.of s)
theorem Wh.mono {K : PySem.W.Frag} {H H1 : Hp} {x : V} {b : Bool} (s : Same H H1) (h : Wh K H x b) : Wh K H1 x b := h.ext (.of s)
/-- what is no evening of such a row -/
def PairBad (K : PySem.W.Frag) (H : Hp) (ns : List Int) (v : V) : Prop := NotTy K H v "tuple" ∨ ∃ (e : Addr) (xs : List V), v = .ref e ∧ H e = some (.tup xs) ∧
  (xs.length ≠ 2 ∧ xs.length ≤ 900 ∨ xs.length = 2 ∧ (∃ bs : List Bool, Paired (Wh K H) xs bs ∧ bs.all id = false) ∨ ∃ p : Pr, xs = [.int p.1, .int p.2] ∧ p ∉ evs ns)
section
variable {P : Program} {w : World} {K : PySem.W.Frag} {mg : Str → Option Value} {base : Heap}
def sp_badX (K : PySem.W.Frag) (CB : Addr) (m g : Int) : Sp := fun vs H _ E => ∃ v, vs = [v] ∧ RowBad K H m g v ∧ ∀ H', Same H H' → E (.ref CB) none H'
theorem ok_eveningsX {f CB : Addr} {fd : FuncData} {t1 t2 : Tok} (F : Fun K "evenings" "evenings" s_evenings f fd) (cC : Cal (L2.CX P w) P w K mg base "check_row" ["row", "most", "greatest"] 2 (sp_check_rowX K CB))
    (g1 : mg "MOST" = some (.int 12 t1)) (g2 : mg "GREATEST" = some (.int 1000000 t2)) : FnOk P w K mg base (L2.CX P w) 3 f fd ["row"] (sp_badX K CB 12 1000000) := by
  refine F.okX sc_evenings (fun vs H Q E h => ?_) (fun cdv A outer s H vs Q E hr h => ?_)
  · obtain ⟨v, rfl, _⟩ := h
    rfl
  · obtain ⟨v, rfl, hb, e⟩ := h
    refine ⟨_, pss_cons (ps_expr (pe_calX cC hr (passes_call (takes_of rfl rfl rfl rfl) (fun _ _ _ _ h => h)) (by rfl) (pa_cons (pv 0) (pa_cons (pe_glob (v := .int 12) (by rfl) g1 ⟨_, rfl⟩) (pa_cons (pe_glob (v := .int 1000000) (by rfl) g2 ⟨_, rfl⟩) pa_nil)))))
      (pss_one ps_never), ?_⟩
    exact ⟨v, rfl, v, 12, 1000000, rfl, .inr ⟨hb, e⟩⟩
theorem ok_aliX {f CB : Addr} {fd : FuncData} {t1 t2 : Tok} (F : Fun K "alike" "alike" s_alike f fd) (cC : Cal (L2.CX P w) P w K mg base "check_row" ["row", "most", "greatest"] 2 (sp_check_rowX K CB))
    (g1 : mg "FEW" = some (.int 5 t1)) (g2 : mg "SMALL" = some (.int 20 t2)) : FnOk P w K mg base (L2.CX P w) 3 f fd ["row"] (sp_badX K CB 5 20) := by
  refine F.okX sc_alike (fun vs H Q E h => ?_) (fun cdv A outer s H vs Q E hr h => ?_)
  · obtain ⟨v, rfl, _⟩ := h
    rfl
  · obtain ⟨v, rfl, hb, e⟩ := h
    refine ⟨_, pss_cons (ps_expr (pe_calX cC hr (passes_call (takes_of rfl rfl rfl rfl) (fun _ _ _ _ h => h)) (by rfl) (pa_cons (pv 0) (pa_cons (pe_glob (v := .int 5) (by rfl) g1 ⟨_, rfl⟩) (pa_cons (pe_glob (v := .int 20) (by rfl) g2 ⟨_, rfl⟩) pa_nil)))))
      (pss_cons ps_never (pss_one ps_never)), ?_⟩
    exact ⟨v, rfl, v, 5, 20, rfl, .inr ⟨hb, e⟩⟩
theorem ok_fewX {f CB : Addr} {fd : FuncData} {t1 t2 : Tok} (F : Fun K "fewest_most" "fewest_most" s_fewest_most f fd) (cC : Cal (L2.CX P w) P w K mg base "check_row" ["row", "most", "greatest"] 2 (sp_check_rowX K CB))
    (g1 : mg "FEW" = some (.int 5 t1)) (g2 : mg "SMALL" = some (.int 20 t2)) : FnOk P w K mg base (L2.CX P w) 3 f fd ["row"] (sp_badX K CB 5 20) := by
  refine F.okX sc_fewest_most (fun vs H Q E h => ?_) (fun cdv A outer s H vs Q E hr h => ?_)
  · obtain ⟨v, rfl, _⟩ := h
    rfl
  · obtain ⟨v, rfl, hb, e⟩ := h
    refine ⟨_, pss_cons (ps_expr (pe_calX cC hr (passes_call (takes_of rfl rfl rfl rfl) (fun _ _ _ _ h => h)) (by rfl) (pa_cons (pv 0) (pa_cons (pe_glob (v := .int 5) (by rfl) g1 ⟨_, rfl⟩) (pa_cons (pe_glob (v := .int 20) (by rfl) g2 ⟨_, rfl⟩) pa_nil)))))
      (pss_one ps_never), ?_⟩
    exact ⟨v, rfl, v, 5, 20, rfl, .inr ⟨hb, e⟩⟩
def sp_settledX (K : PySem.W.Frag) (CB : Addr) : Sp := fun vs H Q E => sp_settled vs H Q E ∨ sp_badX K CB 12 1000000 vs H Q E
theorem ok_settledX {f CB : Addr} {fd : FuncData} {t1 t2 : Tok} (F : Fun K "settled" "settled" s_settled f fd) (cC : Cal (L2.CX P w) P w K mg base "check_row" ["row", "most", "greatest"] 2 (sp_check_rowX K CB))
    (cE : Cal CX0 P w K mg base "evenings_of" ["row"] 1 (sp_evenings_of K)) (g1 : mg "MOST" = some (.int 12 t1)) (g2 : mg "GREATEST" = some (.int 1000000 t2)) : FnOk P w K mg base (L2.CX P w) 3 f fd ["row"] (sp_settledX K CB) := by
  refine F.okX sc_settled (fun vs H Q E h => ?_) (fun cdv A outer s H vs Q E hr h => ?_)
  · rcases h with ⟨a, ns, rfl, _⟩ | ⟨v, rfl, _⟩ <;> rfl
  · obtain ⟨v, rfl⟩ : ∃ v, vs = [v] := by rcases h with ⟨a, ns, rfl, _⟩ | ⟨v, rfl, _⟩ <;> exact ⟨_, rfl⟩
    refine ⟨_, pss_cons (ps_expr (pe_calX cC hr (passes_call (takes_of rfl rfl rfl rfl) (fun _ _ _ _ h => h)) (by rfl) (pa_cons (pv 0) (pa_cons (pe_glob (v := .int 12) (by rfl) g1 ⟨_, rfl⟩) (pa_cons (pe_glob (v := .int 1000000) (by rfl) g2 ⟨_, rfl⟩) pa_nil)))))
      (PSs.nox (pss_one (ps_ret (pe_cmpR (r := rEqD K) (op_eqD hr.units) (pe_cal cE hr (by rfl) (pa_cons (pv 0) pa_nil)) (pe_lst pa_nil) (nomark _))))), ?_⟩
    rcases h with ⟨a, ns, ev, hL, ok, q⟩ | ⟨v, ev, hb, e⟩
    · cases ev
      have l12 := ok.len12
      refine ⟨.ref a, rfl, .ref a, 12, 1000000, rfl, .inl ⟨a, ns, rfl, hL, by omega, ok, fun H1 s1 => ?_⟩⟩
      refine ⟨.ref a, rfl, a, ns, rfl, (hL.mono s1).sq, l12, fun H2 p ws s2 hp e r => ?_⟩
      refine ⟨Nat.zero_le _, fun z hz => ?_⟩
      have s3 : Same H2 (upd H2 z (.lst [])) := same_new hz
      refine ⟨prsD (evs ns), prsD [], dp_prs (SqL.of (s3 _ _ e)) (r.mono (Same.tups s3)), dp_prs (SqL.of upd_same) .nil, shaped_prs _, shaped_prs _, ?_⟩
      rw [eqv_prs]
      exact q _ ((s1.trans s2).trans s3)
    · cases ev
      exact ⟨v, rfl, v, 12, 1000000, rfl, .inr ⟨hb, e⟩⟩
def sp_check_eveningX (K : PySem.W.Frag) (CB CE : Addr) : Sp := fun vs H Q E => ∃ v u, vs = [v, u] ∧ ((RowBad K H 12 1000000 v ∧ ∀ H', Same H H' → E (.ref CB) none H') ∨ ∃ (a : Addr) (ns : List Int), v = .ref a ∧ Lst H a ns ∧ RowOk ns 12 1000000 ∧
  ((PairBad K H ns u ∧ ∀ H', Same H H' → E (.ref CE) none H') ∨ ∃ (e : Addr) (p : Pr), u = .ref e ∧ H e = some (.tup [.int p.1, .int p.2]) ∧ p ∈ evs ns ∧ ∀ H', Same H H' → Q .non H'))
theorem ok_check_eveningX {f CB CE : Addr} {fd : FuncData} {t1 t2 : Tok} (F : Fun K "check_evening" "check_evening" s_check_evening f fd) (B : Blt mg) (gE : mg "BadEvening" = some (.ref CE)) (xE : XcF K CE) (cW : Cal CX0 P w K mg base "is_whole" ["thing"] 1 (sp_is_whole K))
    (cC : Cal (L2.CX P w) P w K mg base "check_row" ["row", "most", "greatest"] 2 (sp_check_rowX K CB))
    (cE : Cal CX0 P w K mg base "evenings_of" ["row"] 1 (sp_evenings_of K)) (g1 : mg "MOST" = some (.int 12 t1)) (g2 : mg "GREATEST" = some (.int 1000000 t2)) : FnOk P w K mg base (L2.CX P w) 3 f fd ["row", "evening"] (sp_check_eveningX K CB CE) := by
  refine F.okX sc_check_evening (fun vs H Q E h => ?_) (fun cdv A outer s H vs Q E hr h => ?_)
  · obtain ⟨v, u, rfl, _⟩ := h
    rfl
  · obtain ⟨v, u, rfl, h⟩ := h
    refine ⟨_, pss_cons (ps_expr (pe_calX cC hr (passes_call (takes_of rfl rfl rfl rfl) (fun _ _ _ _ h => h)) (by rfl) (pa_cons (pv 0) (pa_cons (pe_glob (v := .int 12) (by rfl) g1 ⟨_, rfl⟩) (pa_cons (pe_glob (v := .int 1000000) (by rfl) g2 ⟨_, rfl⟩) pa_nil)))))
      (pss_cons (ps_if (PW.pt (pw_or (pt_not (pt_val (pe_callB (r := rIsi K) call_isi (by rfl) B.isi PyProof.Rows.boot_isinstance (pa_cons (pv 1) (pa_cons (pe_bltn (v := .ty "tuple") (by rfl) B.tuple PyProof.Rows.boot_tuple rfl) pa_nil)))))
          (pw_or (pt_cmpR op_ne (pe_callB (r := rLenS K) call_len_seq (by rfl) B.len PySem.boot_len (pa_cons (pv 1) pa_nil)) pe_int (nomark _))
          (pw_or1 (pt_not (pt_val (pe_callB (r := rAll K) (cr_all rfl) (by rfl) B.all PyProof.Rows.boot_all (pa_cons
            (pe_lc (own := [("one", 2)]) (g := gName 2) (tt := tYes) rfl sc_check_evening.nd (pi_tup (pv 1)) (blkOk_by (N := ["row", "evening", "one"]) (sc := defScope s_check_evening) (by decide +kernel))
              (fun _ _ _ _ _ => pg_name (i := 2) sc_check_evening.nd rfl (Or.inl rfl)) (fun _ _ _ _ _ => pts_nil)
              (fun _ _ _ _ _ => pe_cal cW hr (by rfl) (pa_cons (pv 2) pa_nil))) pa_nil))))))))
        (pss_one (ps_raise rfl (takes_of rfl rfl rfl rfl) (pmk_own PySem.F.excBase_ValueError xE.x gE xE.k (raises_own xE.b xE.t) rfl))) pss_nil)
      (pss_one (ps_if (pt_cmpR (op_notInD (room65 hr)) (pv 1) (pe_cal cE hr (by rfl) (pa_cons (pv 0) pa_nil)) (by rfl))
        (pss_one (ps_raise rfl (takes_of rfl rfl rfl rfl) (pmk_own PySem.F.excBase_ValueError xE.x gE xE.k (raises_own xE.b xE.t) rfl))) pss_nil))), ?_⟩
    rcases h with ⟨hb, e⟩ | ⟨a, ns, rfl, hL, ok, h⟩
    · exact ⟨v, rfl, v, 12, 1000000, rfl, .inr ⟨hb, e⟩⟩
    have l12 := ok.len12
    refine ⟨.ref a, rfl, .ref a, 12, 1000000, rfl, .inl ⟨a, ns, rfl, hL, by omega, ok, fun H1 s1 => ?_⟩⟩
    -- what the pair is
    have go : (NotTy K H u "tuple" ∧ ∀ H', Same H H' → E (.ref CE) none H') ∨ ∃ (e : Addr) (xs : List V), u = .ref e ∧ H e = some (.tup xs) ∧ ((xs.length ≠ 2 ∧ xs.length ≤ 900 ∧ ∀ H', Same H H' → E (.ref CE) none H') ∨
        (xs.length = 2 ∧ ∃ bs : List Bool, Paired (Wh K H) xs bs ∧ ((bs.all id = false ∧ ∀ H', Same H H' → E (.ref CE) none H') ∨ (bs.all id = true ∧ ∃ p : Pr, xs = [.int p.1, .int p.2] ∧ ∀ H', Same H H' → if p ∈ evs ns then Q .non H' else E (.ref CE) none H')))) := by
      have two : ∀ p : Pr, Paired (Wh K H) [.int p.1, .int p.2] [true, true] := fun p => .cons (Wh.int _) (.cons (Wh.int _) .nil)
      rcases h with ⟨hb, e⟩ | ⟨e, p, rfl, he, hp, q⟩
      · rcases hb with hn | ⟨e1, xs, rfl, he, ⟨hn, hl⟩ | ⟨h2, bs, hp, hb⟩ | ⟨p, rfl, hp⟩⟩
        · exact .inl ⟨hn, e⟩
        · exact .inr ⟨e1, xs, rfl, he, .inl ⟨hn, hl, e⟩⟩
        · exact .inr ⟨e1, xs, rfl, he, .inr ⟨h2, bs, hp, .inl ⟨hb, e⟩⟩⟩
        · exact .inr ⟨e1, _, rfl, he, .inr ⟨rfl, _, two p, .inr ⟨rfl, p, rfl, fun H' s' => by rw [if_neg hp]; exact e H' s'⟩⟩⟩
      · exact .inr ⟨e, _, rfl, he, .inr ⟨rfl, _, two p, .inr ⟨rfl, p, rfl, fun H' s' => by rw [if_pos hp]; exact q H' s'⟩⟩⟩
    clear h
    rcases go with ⟨⟨t, ht, hk⟩, e⟩ | ⟨e, xs, rfl, hT, h⟩
    · exact ⟨u, rfl, _, _, _, _, false, rfl, .ty _, ht H1 (.of s1), hk, false, rfl, iteT (e H1 s1)⟩
    have hT1 := s1 _ _ hT
    refine ⟨.ref e, rfl, _, _, _, _, true, rfl, .ty _, .base (.tup hT1), kit_ty (by decide +kernel), true, rfl, iteF ?_⟩
    refine ⟨.ref e, rfl, e, _, rfl, .inr (SqT.of hT1), rfl, _, rfl, ?_⟩
    rw [dec_int]
    rcases h with ⟨hn, hl, eE⟩ | ⟨h2, bs, hp, h⟩
    · have hn' : ¬ ((xs.length : Int) = 2) := by omega
      refine itP (by rw [decide_eq_false hn']; rfl) ?_
      exact eE H1 s1
    · have h2' : ((xs.length : Int) = 2) := by omega
      refine itN (by rw [decide_eq_true h2']; decide) ?_
      have lb : xs.length = bs.length := Paired.length hp
      refine ⟨.ref e, rfl, e, rfl, ⟨_, SqT.of hT1⟩, fun D hD => lc_tup (K := K) (a := e) (xs := xs)
        (fun i H' => Same H1 H' ∧ H' D = some (.lst ((bs.take i).map V.bl))) ⟨same_new hD, upd_same⟩ (fun i H' _ h => SqT.of (h.1 _ _ hT1)) (fun i x H' hx h => ?_) (fun H' h3 => ?_)⟩
      · obtain ⟨b, hbi, io⟩ := pdv_at hp hx
        have hil := (List.getElem?_eq_some_iff.mp hx).1
        refine ⟨rfl, iteT (B := True) ⟨x, rfl, _, b, rfl, io _ (.of (s1.trans h.1)), ?_⟩⟩
        refine ⟨_, h.2, small1000 (by rw [List.length_map, List.length_take]; omega), same_upd2 h.1 hD, ?_⟩
        rw [upd_same, List.take_add_one, hbi, List.map_append]
        rfl
      · have hD2 := h3.2
        rw [lb, List.take_length] at hD2
        refine ⟨D, bs, rfl, SqL.of hD2, _, rfl, ?_⟩
        have sH' := s1.trans h3.1
        rcases h with ⟨hb, eE⟩ | ⟨hb, p, rfl, q⟩
        · rw [hb]
          exact iteT (eE H' sH')
        · rw [hb]
          refine iteF ?_
          refine ⟨.ref e, rfl, .ref a, rfl, a, ns, rfl, ((hL.mono s1).mono h3.1).sq, l12, fun H2 o ws s2 ho e1 r => ?_⟩
          refine ⟨prD p, (evs ns).map prD, dp_prT (SqT.of (s2 _ _ (h3.1 _ _ hT1))), dp_prs (SqL.of e1) r, shaped_pr _, shaped_prs _, _, rfl, ?_⟩
          rw [any_prs]
          have q2 := q H2 (sH'.trans s2)
          by_cases c : p ∈ evs ns
          · rw [if_pos c] at q2
            rw [decide_eq_true c]
            exact iteF q2
          · rw [if_neg c] at q2
            rw [decide_eq_false c]
            exact iteT q2
end
end EG

/-! evened, fall, with what they refuse. -/
namespace EG
open PySem L2
section
variable {P : Program} {w : World} {K : PySem.W.Frag} {mg : Str → Option Value} {base : Heap}
def sp_bad2X (K : PySem.W.Frag) (CB CE : Addr) : Sp := fun vs H _ E => ∃ v u, vs = [v, u] ∧ ((RowBad K H 12 1000000 v ∧ ∀ H', Same H H' → E (.ref CB) none H') ∨ ∃ (a : Addr) (ns : List Int), v = .ref a ∧ Lst H a ns ∧ RowOk ns 12 1000000 ∧
  PairBad K H ns u ∧ ∀ H', Same H H' → E (.ref CE) none H')
def sp_evenedX (K : PySem.W.Frag) (CB CE : Addr) : Sp := fun vs H Q E => sp_evened vs H Q E ∨ sp_bad2X K CB CE vs H Q E
def sp_fallX (K : PySem.W.Frag) (CB CE : Addr) : Sp := fun vs H Q E => sp_fall vs H Q E ∨ sp_bad2X K CB CE vs H Q E
theorem ok_evenedX {f CB CE : Addr} {fd : FuncData} (F : Fun K "evened" "evened" s_evened f fd) (cC : Cal (L2.CX P w) P w K mg base "check_evening" ["row", "evening"] 3 (sp_check_eveningX K CB CE))
    (cB : Cal CX0 P w K mg base "behind" ["row", "evening"] 1 (sp_behind K)) : FnOk P w K mg base (L2.CX P w) 4 f fd ["row", "evening"] (sp_evenedX K CB CE) := by
  refine F.okX sc_evened (fun vs H Q E h => ?_) (fun cdv A outer s H vs Q E hr h => ?_)
  · rcases h with ⟨a, e, ns, p, rfl, _⟩ | ⟨v, u, rfl, _⟩ <;> rfl
  · obtain ⟨v, u, rfl⟩ : ∃ v u, vs = [v, u] := by rcases h with ⟨a, e, ns, p, rfl, _⟩ | ⟨v, u, rfl, _⟩ <;> exact ⟨_, _, rfl⟩
    refine ⟨_, pss_cons (ps_expr (pe_calX cC hr (passes_call (takes_of rfl rfl rfl rfl) (fun _ _ _ _ h => h)) (by rfl) (pa_cons (pv 0) (pa_cons (pv 1) pa_nil)))) (PSs.nox (pss_one (ps_ret (pe_cal cB hr (by rfl) (pa_cons (pv 0) (pa_cons (pv 1) pa_nil)))))), ?_⟩
    rcases h with ⟨a, e, ns, p, ev, hL, ok, hT, hp, q⟩ | ⟨v, u, ev, h⟩
    · cases ev
      refine ⟨.ref a, rfl, .ref e, rfl, .ref a, .ref e, rfl, .inr ⟨a, ns, rfl, hL, ok, .inr ⟨e, p, rfl, hT, hp, fun H1 s1 => ?_⟩⟩⟩
      obtain ⟨i, j, ep, hij, hj, hg⟩ := mem_evs.mp hp
      subst ep
      have l12 := ok.len12
      refine ⟨.ref a, rfl, .ref e, rfl, a, e, ns, i, j, rfl, (hL.mono s1).sq, SqT.of (s1 _ _ hT), by omega, hj, l12, fun H2 o s2 ho h2 => ?_⟩
      exact q H2 o (s1.trans s2) (s1.free ho) h2
    · cases ev
      refine ⟨v, rfl, u, rfl, v, u, rfl, ?_⟩
      rcases h with h | ⟨a, ns, ev, hL, ok, hb, e⟩
      · exact .inl h
      · exact .inr ⟨a, ns, ev, hL, ok, .inl ⟨hb, e⟩⟩
theorem ok_fallX {f CB CE : Addr} {fd : FuncData} (F : Fun K "fall" "fall" s_fall f fd) (cC : Cal (L2.CX P w) P w K mg base "check_evening" ["row", "evening"] 3 (sp_check_eveningX K CB CE)) : FnOk P w K mg base (L2.CX P w) 4 f fd ["row", "evening"] (sp_fallX K CB CE) := by
  refine F.okX sc_fall (fun vs H Q E h => ?_) (fun cdv A outer s H vs Q E hr h => ?_)
  · rcases h with ⟨a, e, ns, p, rfl, _⟩ | ⟨v, u, rfl, _⟩ <;> rfl
  · obtain ⟨v, u, rfl⟩ : ∃ v u, vs = [v, u] := by rcases h with ⟨a, e, ns, p, rfl, _⟩ | ⟨v, u, rfl, _⟩ <;> exact ⟨_, _, rfl⟩
    refine ⟨_, pss_cons (ps_expr (pe_calX cC hr (passes_call (takes_of rfl rfl rfl rfl) (fun _ _ _ _ h => h)) (by rfl) (pa_cons (pv 0) (pa_cons (pv 1) pa_nil))))
      (PSs.nox (pss_cons (ps_set (i := 2) sc_fall.nd rfl (.inl rfl) (pe_op op_sub (pe_ix (r := rIxL K) ix_list (pv 0) (pe_ix (r := rIxT K) ix_tup (pv 1) pe_int (fun _ _ => rfl)) (fun _ _ => rfl)) (pe_ix (r := rIxL K) ix_list (pv 0) (pe_ix (r := rIxT K) ix_tup (pv 1) pe_int (fun _ _ => rfl)) (fun _ _ => rfl))))
      (pss_one (ps_ret (pe_op op_fdiv (pe_op op_mul (pv 2) (pv 2)) pe_int))))), ?_⟩
    rcases h with ⟨a, e, ns, p, ev, hL, ok, hT, hp, q⟩ | ⟨v, u, ev, h⟩
    · cases ev
      refine ⟨.ref a, rfl, .ref e, rfl, .ref a, .ref e, rfl, .inr ⟨a, ns, rfl, hL, ok, .inr ⟨e, p, rfl, hT, hp, fun H1 s1 => ?_⟩⟩⟩
      obtain ⟨i, j, ep, hij, hj, hg⟩ := mem_evs.mp hp
      subst ep
      have hT1 := s1 _ _ hT
      have hS := (hL.mono s1).sq (K := K)
      have hi : i < ns.length := by omega
      have a1 := ok.getD hi
      have a2 := ok.getD hj
      refine ⟨.ref a, rfl, .ref e, rfl, e, _, 0, .int (i : Int), rfl, rfl, SqT.of hT1, rfl, a, _, _, _, rfl, rfl, hS, atI_nat (row_get hi), .ref a, rfl, .ref e, rfl, e, _, 1, .int (j : Int), rfl, rfl, SqT.of hT1, rfl, a, _, _, _, rfl, rfl, hS, atI_nat (row_get hj), _, _, rfl, rfl, ?_⟩
      refine ⟨_, rfl, _, rfl, _, _, rfl, rfl, .inl ⟨by omega, by omega⟩, _, _, rfl, rfl, ⟨by decide, by decide⟩, ?_⟩
      exact q H1 s1
    · cases ev
      refine ⟨v, rfl, u, rfl, v, u, rfl, ?_⟩
      rcases h with h | ⟨a, ns, ev, hL, ok, hb, e⟩
      · exact .inl h
      · exact .inr ⟨a, ns, ev, hL, ok, .inl ⟨hb, e⟩⟩
end
end EG

/-! ends, with what it refuses. -/
namespace EG
open PySem L2
section
variable {P : Program} {w : World} {K : PySem.W.Frag} {mg : Str → Option Value} {base : Heap}
def sp_endsX (K : PySem.W.Frag) (CB : Addr) : Sp := fun vs H Q E => sp_ends vs H Q E ∨ sp_badX K CB 5 20 vs H Q E
theorem ok_endsX {f CB : Addr} {fd : FuncData} {t1 t2 : Tok} (F : Fun K "ends" "ends" s_ends f fd) (B : Blt mg) (g_FEW : mg "FEW" = some (.int 5 t1)) (g_SMALL : mg "SMALL" = some (.int 20 t2))
    (c_check_row : Cal (L2.CX P w) P w K mg base "check_row" ["row", "most", "greatest"] 2 (sp_check_rowX K CB)) (c_evenings_of : Cal CX0 P w K mg base "evenings_of" ["row"] 1 (sp_evenings_of K))
    (c_behind : Cal CX0 P w K mg base "behind" ["row", "evening"] 1 (sp_behind K)) : FnOk P w K mg base (L2.CX P w) 3 f fd ["row"] (sp_endsX K CB) := by
  refine F.okX sc_ends (fun vs H Q E h => ?_) (fun cdv A outer s H vs Q E hr h => ?_)
  · rcases h with ⟨a, ns, rfl, _⟩ | ⟨v, rfl, _⟩ <;> rfl
  · obtain ⟨v, rfl⟩ : ∃ v, vs = [v] := by rcases h with ⟨a, ns, rfl, _⟩ | ⟨v, rfl, _⟩ <;> exact ⟨_, rfl⟩
    refine ⟨_, (pss_cons (ps_expr (pe_calX c_check_row hr (passes_call (takes_of rfl rfl rfl rfl) (fun _ _ _ _ h => h)) (by rfl) (pa_cons (pv 0) (pa_cons (pe_glob (v := .int 5) (by rfl) g_FEW ⟨_, rfl⟩) (pa_cons (pe_glob (v := .int 20) (by rfl) g_SMALL ⟨_, rfl⟩) pa_nil)))))
    (PSs.nox (pss_cons (ps_par3 (i := 1) (j := 2) (l := 3) rfl sc_ends.nd rfl rfl rfl (by decide) (by decide) (by decide) rfl rfl rfl (pa_cons (pe_lst pa_nil) (pa_cons (pe_lst (pa_cons (pe_callTy (r := rListOf K) call_list_of (by rfl) B.list PyProof.Rows.boot_list (pa_cons (pv 0) pa_nil)) pa_nil)) (pa_cons (pe_dispT (hu_of hr) (pe_callTy (r := rTupOf K) call_tuple_of (by rfl) B.tuple PyProof.Rows.boot_tuple (pa_cons (pv 0) pa_nil)) pe_bl) pa_nil))) (by rfl))
    (pss_cons (ps_while PassesOwn.never (pt_cmpR (r := rNeD K) (op_neD hr.units) (pv 2) (pe_lst pa_nil) (nomark _))
    (pss_cons (ps_set (i := 4) sc_ends.nd rfl (.inl rfl) (pe_bm0 PySem.F.plainAttrs_list PySem.F.slot_list_pop PySem.F.type_list_pop mt_pop (pv 2)))
      (pss_cons (ps_set (i := 5) sc_ends.nd rfl (.inl rfl) (pe_cal c_evenings_of hr (by rfl) (pa_cons (pv 4) pa_nil)))
      (pss_cons (ps_if (pt_cmpR (r := rEqD K) (op_eqD hr.units) (pv 5) (pe_lst pa_nil) (nomark _))
      (pss_one (ps_expr (pe_bm PySem.F.plainAttrs_list PySem.F.slot_list_append PySem.F.type_list_append mt_append (pv 1) (pa_cons (pv 4) pa_nil))))
      pss_nil)
      (pss_one (ps_for PassesOwn.never rfl (pi_list (pv 5)) (pg_name (i := 6) sc_ends.nd rfl (.inl rfl))
      (pss_cons (ps_set (i := 7) sc_ends.nd rfl (.inl rfl) (pe_cal c_behind hr (by rfl) (pa_cons (pv 4) (pa_cons (pv 6) pa_nil))))
        (pss_one (ps_if (pt_cmp (pc_dnotin (hu_of hr) (pe_callTy (r := rTupOf K) call_tuple_of (by rfl) B.tuple PyProof.Rows.boot_tuple (pa_cons (pv 7) pa_nil)) (pv 3)))
        (pss_cons (ps_dput (hu_of hr) (pv 3) (pe_callTy (r := rTupOf K) call_tuple_of (by rfl) B.tuple PyProof.Rows.boot_tuple (pa_cons (pv 7) pa_nil)) pe_bl rfl)
          (pss_one (ps_expr (pe_bm PySem.F.plainAttrs_list PySem.F.slot_list_append PySem.F.type_list_append mt_append (pv 2) (pa_cons (pv 7) pa_nil)))))
        pss_nil)))))))))
    (pss_one (ps_ret (pe_callB (cr_sortRows (room65 hr)) (by rfl) B.sorted PyProof.Rows.boot_sorted (pa_cons (pv 1) pa_nil)))))))), ?_⟩
    rcases h with ⟨a, ns, ev, hL, ok, q⟩ | ⟨v, ev, hb, e⟩
    rotate_left
    · cases ev
      exact ⟨v, rfl, v, 5, 20, rfl, .inr ⟨hb, e⟩⟩
    cases ev
    refine ⟨.ref a, rfl, .ref a, 5, 20, rfl, .inl ⟨a, ns, rfl, hL, by have := ok.len5; omega, ok, fun H1 s1 => ?_⟩⟩
    have hL1 := hL.mono s1
    refine ⟨Nat.zero_le _, fun fo hfo => ?_⟩
    have a1 : Same H1 (upd H1 fo (.lst [])) := same_new hfo
    have hfo2 : (upd H1 fo (.lst [])) fo = some (.lst []) := upd_same
    have hfoH : H fo = none := s1.free hfo
    generalize upd H1 fo (.lst []) = H2 at a1 hfo2
    refine ⟨.ref a, rfl, a, _, rfl, .inl (hL1.mono a1).sq, fun b0 hb0 => ?_⟩
    have a2 : Same H2 (upd H2 b0 (.lst (ns.map V.int))) := same_new hb0
    have hb02 : Lst (upd H2 b0 (.lst (ns.map V.int))) b0 ns := upd_same
    have hb0H : H b0 = none := (s1.trans a1).free hb0
    have nb0 : b0 ≠ fo := (ne_of_none hfo2 hb0).symm
    generalize upd H2 b0 (.lst (ns.map V.int)) = H3 at a2 hb02
    refine ⟨(by show 1 ≤ sizeLine; decide), fun wa hwa => ?_⟩
    have a3 : Same H3 (upd H3 wa (.lst [.ref b0])) := same_new hwa
    have hwa4 : (upd H3 wa (.lst [.ref b0])) wa = some (.lst [.ref b0]) := upd_same
    have hwaH : H wa = none := ((s1.trans a1).trans a2).free hwa
    have nbw : b0 ≠ wa := ne_of_none hb02 hwa
    have nfw : fo ≠ wa := ne_of_none (a2 _ _ hfo2) hwa
    have hfo4 := a3 _ _ (a2 _ _ hfo2)
    have hb04 := hb02.mono a3
    have s4 : Same H (upd H3 wa (.lst [.ref b0])) := ((s1.trans a1).trans a2).trans a3
    generalize upd H3 wa (.lst [.ref b0]) = H4 at a3 hwa4 hfo4 hb04 s4
    refine fun me hme => ?_
    have hmeH : H me = none := s4.free hme
    have a4 : Same H4 (upd H4 me (.dT [])) := same_new hme
    refine ⟨.ref a, rfl, a, _, rfl, .inl ⟨((hL.mono s4).mono a4).sq, fun t ht => ?_⟩⟩
    have a5 : Same (upd H4 me (.dT [])) (upd (upd H4 me (.dT [])) t (.tup (ns.map V.int))) := same_new ht
    have hme5 := a5 _ _ (show (upd H4 me (.dT [])) me = some (.dT []) from upd_same)
    refine ⟨t, rowKey ns, rfl, hme5, by rw [rowKey_V]; exact upd_same, _, _, _, rfl, ?_⟩
    have l6 : Lsts H4 (upd (upd (upd H4 me (.dT [])) t (.tup (ns.map V.int))) me (.dT [(rowKey ns, .bl true)])) := (Same.lsts (a4.trans a5)).trans (lsts_dT hme5)
    have s6 : Same H (upd (upd (upd H4 me (.dT [])) t (.tup (ns.map V.int))) me (.dT [(rowKey ns, .bl true)])) := same_upd2 ((s4.trans a4).trans a5) hmeH
    have hme6 : (upd (upd (upd H4 me (.dT [])) t (.tup (ns.map V.int))) me (.dT [(rowKey ns, .bl true)])) me = some (.dT (dRows [ns])) := upd_same
    generalize upd (upd (upd H4 me (.dT [])) t (.tup (ns.map V.int))) me (.dT [(rowKey ns, .bl true)]) = H6 at l6 s6 hme6
    refine ⟨fun m σ H' => ∃ fv wv Fd L M y4 y5 y6 y7, m + M.length = 4084102 + L.length ∧ σ = [some (.ref a), some (.ref fo), some (.ref wa), some (.ref me), y4, y5, y6, y7] ∧ Same H H' ∧ H' fo = some (.lst fv) ∧ H' wa = some (.lst wv) ∧
        H' me = some (.dT (dRows M)) ∧ Nws H (hid H' [fo, wa]) fv Fd ∧ Nws H (hid H' [fo, wa]) wv L ∧ EndI ns M L Fd,
      ⟨4084102, [], [.ref b0], [], [ns], [ns], none, none, none, none, rfl, rfl, s6, l6 _ _ hfo4, l6 _ _ hwa4, hme6, .nil, .cons ⟨b0, rfl, ?_, hb0H⟩ .nil, ?_⟩, fun m σ H7 h => ?_⟩
    · unfold Lst
      rw [hid_out (by simp [nb0, nbw])]
      exact l6 _ _ hb04
    · refine ⟨List.nodup_cons.mpr ⟨List.not_mem_nil, List.nodup_nil⟩, fun x hx => ?_, List.mem_singleton.mpr rfl, fun r hr => .inl hr, List.nodup_nil, List.nodup_cons.mpr ⟨List.not_mem_nil, List.nodup_nil⟩, fun r hr => ⟨hr, List.not_mem_nil⟩, fun r hr => nomatch hr⟩
      rw [List.mem_singleton.mp hx]
      exact ⟨0, .zero _⟩
    · obtain ⟨fv, wv, Fd, L, M, y4, y5, y6, y7, em, rfl, s7, hfo7, hwa7, hme7, nf7, nw7, ei⟩ := h
      refine ⟨.ref wa, rfl, Nat.zero_le _, fun z hz => ?_⟩
      have b1 : Same H7 (upd H7 z (.lst [])) := same_new hz
      have hs := Same.lsts (hid_same H7 [fo, wa])
      refine ⟨rowsD L, rowsD [], dp_rows (SqL.of (b1 _ _ hwa7)) ((nw7.mono hs).mono (Same.lsts b1)).rows, .lst (SqL.of upd_same) .nil, shaped_rows _, shaped_rows _, _, rfl, ?_⟩
      rw [eqv_rows]
      have s8 : Same H (upd H7 z (.lst [])) := s7.trans b1
      have hfo8 := b1 _ _ hfo7
      have hwa8 := b1 _ _ hwa7
      have hme8 := b1 _ _ hme7
      have nf8 := nf7.mono (Same.lsts (hid_mono (xs := [fo, wa]) b1))
      have nw8 := nw7.mono (Same.lsts (hid_mono (xs := [fo, wa]) b1))
      generalize upd H7 z (.lst []) = H8 at s8 hfo8 hwa8 hme8 nf8 nw8
      by_cases ce : L = []
      · subst ce
        refine itN (by simp) ?_
        refine ⟨.ref fo, rfl, fo, fv, Fd, _, rfl, SqL.of hfo8, nf8.mono (Same.lsts (hid_same _ _)), fun v r h => h.row, fun ys p hp pr => ?_⟩
        refine q _ p ys Fd (s8.trans (same_new hp)) (s8.free hp) upd_same (Paired.mapP pr fun v r h => ?_) ei.all
        obtain ⟨b, e, hb, nb⟩ := h
        refine ⟨b, e, ?_, nb⟩
        have nbp : b ≠ p := ne_of_none hb hp
        unfold Lst
        rw [hid_out (by simp [nbp]), upd_ne nbp]
        exact hb
      · refine itP (by rw [decide_eq_false ce]; rfl) ?_
        refine ⟨fun σ' H' => ∃ m', m' < m ∧ ∃ fv wv Fd L M y4 y5 y6 y7, m' + M.length = 4084102 + L.length ∧ σ' = [some (.ref a), some (.ref fo), some (.ref wa), some (.ref me), y4, y5, y6, y7] ∧ Same H H' ∧ H' fo = some (.lst fv) ∧ H' wa = some (.lst wv) ∧
          H' me = some (.dT (dRows M)) ∧ Nws H (hid H' [fo, wa]) fv Fd ∧ Nws H (hid H' [fo, wa]) wv L ∧ EndI ns M L Fd, fun σ' H' h => h, ?_⟩
        obtain ⟨L0, r, rfl⟩ : ∃ L0 r, L = L0 ++ [r] := ⟨L.dropLast, L.getLast ce, (List.dropLast_concat_getLast ce).symm⟩
        obtain ⟨w0, v, rfl, nw0, b, rfl, hb, hbH⟩ := pd_snoc nw8
        have cM := count_le ok ei.nm ei.rm
        -- pop
        refine ⟨.ref wa, rfl, .inl ⟨rfl, _, SqL.of hwa8⟩, wa, _, .ref b, rfl, rfl, hwa8, by simp, ?_⟩
        rw [List.dropLast_concat]
        have ls9 : Same (hid H8 [fo, wa]) (hid (upd H8 wa (.lst w0)) [fo, wa]) := by rw [hid_upd (by simp)]; exact Same.refl _
        have s9 : Same H (upd H8 wa (.lst w0)) := same_upd2 s8 hwaH
        have hwa9 : (upd H8 wa (.lst w0)) wa = some (.lst w0) := upd_same
        have hfo9 : (upd H8 wa (.lst w0)) fo = some (.lst fv) := by rw [upd_ne nfw]; exact hfo8
        have hme9 : (upd H8 wa (.lst w0)) me = some (.dT (dRows M)) := by rw [upd_ne (ne_of hme8 hwa8 (by intro z; cases z))]; exact hme8
        have nf9 := nf8.mono (Same.lsts ls9)
        have nw9 := Nws.mono (Same.lsts ls9) nw0
        have hb9 : Lst (hid (upd H8 wa (.lst w0)) [fo, wa]) b r := ls9 _ _ hb
        generalize upd H8 wa (.lst w0) = H9 at s9 hwa9 hfo9 hme9 nf9 nw9 hb9
        have hb9' : Lst H9 b r := hid_same _ _ _ _ hb9
        obtain ⟨k0, rch⟩ := ei.rm r (ei.lm r (List.mem_append_right _ (List.mem_singleton.mpr rfl))).1
        have okr : Small r := rch.ok ok
        have ej := ei.pop
        -- evenings
        refine ⟨.ref b, rfl, b, r, rfl, hb9'.sq, okr.row12, fun HA p we sA hp hwe pe => ?_⟩
        have lsA := Same.lsts (hid_mono (xs := [fo, wa]) sA)
        have sHA := s9.trans sA
        have hfoA := sA _ _ hfo9
        have hwaA := sA _ _ hwa9
        have hmeA := sA _ _ hme9
        have nfA := nf9.mono lsA
        have nwA := nw9.mono lsA
        have hbA : Lst (hid HA [fo, wa]) b r := lsA _ _ hb9
        have npf : p ≠ fo := (ne_of_none hfo9 hp).symm
        have npw : p ≠ wa := (ne_of_none hwa9 hp).symm
        refine ⟨.ref p, rfl, Nat.zero_le _, fun z2 hz2 => ?_⟩
        have sB : Same HA (upd HA z2 (.lst [])) := same_new hz2
        refine ⟨prsD (evs r), prsD [], dp_prs (SqL.of (sB _ _ hwe)) (pe.mono (Same.tups sB)), dp_prs (SqL.of upd_same) .nil, shaped_prs _, shaped_prs _, _, rfl, ?_⟩
        rw [eqv_prs]
        have lsB := Same.lsts (hid_mono (xs := [fo, wa]) sB)
        have sHB := sHA.trans sB
        have hfoB := sB _ _ hfoA
        have hwaB := sB _ _ hwaA
        have hmeB := sB _ _ hmeA
        have nfB := nfA.mono lsB
        have nwB := nwA.mono lsB
        have hbB : Lst (hid (upd HA z2 (.lst [])) [fo, wa]) b r := lsB _ _ hbA
        have hweB := sB _ _ hwe
        have peB := pe.mono (Same.tups sB)
        generalize upd HA z2 (.lst []) = HB at sHB hfoB hwaB hmeB nfB nwB hbB hweB peB
        have lF : fv.length = Fd.length := pd_len nfB
        have cF : Fd.length ≤ 4084101 := count_le ok ei.nf fun x hx => ei.rm x (ei.fm x hx).1
        obtain ⟨FdC, eFd⟩ : ∃ z, z = (if evs r = [] then Fd ++ [r] else Fd) := ⟨_, rfl⟩
        rw [← eFd] at ej
        rw [List.length_append] at em
        have em2 : m + M.length = 4084103 + L0.length := by
          have e1 : [r].length = 1 := rfl
          omega
        by_cases cv : evs r = []
        case' pos =>
          refine itP (decide_eq_true cv) ?_
          refine ⟨.ref fo, rfl, .inl ⟨rfl, _, SqL.of hfoB⟩, .ref b, rfl, fo, fv, _, rfl, rfl, hfoB, lineB (by omega), ?_⟩
          have eF2 : FdC = Fd ++ [r] := by rw [eFd, if_pos cv]
          have hh : hid (upd HB fo (.lst (fv ++ [.ref b]))) [fo, wa] = hid HB [fo, wa] := hid_upd (by simp)
          have sC : Same H (upd HB fo (.lst (fv ++ [.ref b]))) := same_upd2 sHB hfoH
          have hfoC : (upd HB fo (.lst (fv ++ [.ref b]))) fo = some (.lst (fv ++ [.ref b])) := upd_same
          have hwaC : (upd HB fo (.lst (fv ++ [.ref b]))) wa = some (.lst w0) := by rw [upd_ne nfw.symm]; exact hwaB
          have hmeC : (upd HB fo (.lst (fv ++ [.ref b]))) me = some (.dT (dRows M)) := by rw [upd_ne (ne_of hmeB hfoB (by intro z; cases z))]; exact hmeB
          have nfC : Nws H (hid (upd HB fo (.lst (fv ++ [.ref b]))) [fo, wa]) (fv ++ [.ref b]) FdC := by
            rw [hh, eF2]
            exact pd_app nfB (.cons ⟨b, rfl, hbB, hbH⟩ .nil)
          have nwC : Nws H (hid (upd HB fo (.lst (fv ++ [.ref b]))) [fo, wa]) w0 L0 := by
            rw [hh]
            exact nwB
          have hbC : Lst (hid (upd HB fo (.lst (fv ++ [.ref b]))) [fo, wa]) b r := by
            rw [hh]
            exact hbB
          have hweC : (upd HB fo (.lst (fv ++ [.ref b]))) p = some (.lst we) := by rw [upd_ne npf]; exact hweB
          have peC := peB.mono (tups_lst (o := .lst (fv ++ [.ref b])) hfoB)
          generalize fv ++ [.ref b] = fvC at *
          generalize upd HB fo (.lst fvC) = HC at *
        case' neg =>
          refine itN (by rw [decide_eq_false cv]; decide) ?_
          have eF2 : FdC = Fd := by rw [eFd, if_neg cv]
          have sC := sHB
          have hfoC := hfoB
          have hwaC := hwaB
          have hmeC := hmeB
          have nfC : Nws H (hid HB [fo, wa]) fv FdC := by rw [eF2]; exact nfB
          have nwC := nwB
          have hbC := hbB
          have hweC := hweB
          have peC := peB
          generalize fv = fvC at *
          generalize HB = HC at *
        all_goals
          refine ⟨.ref p, rfl, p, rfl, ⟨_, SqL.of hweC⟩, for_list (K := K) (a := p) (xs := we)
            (fun j σ H' => ∃ wv L M y6 y7, σ = [some (.ref a), some (.ref fo), some (.ref wa), some (.ref me), some (.ref b), some (.ref p), y6, y7] ∧ Same H H' ∧ H' fo = some (.lst fvC) ∧ H' wa = some (.lst wv) ∧ H' me = some (.dT (dRows M)) ∧
              Nws H (hid H' [fo, wa]) fvC FdC ∧ Nws H (hid H' [fo, wa]) wv L ∧ Lst (hid H' [fo, wa]) b r ∧ H' p = some (.lst we) ∧ Prs H' we (evs r) ∧ EndJ ns r j M L FdC ∧ m + M.length = 4084103 + L.length)
            ⟨w0, L0, M, _, _, rfl, sC, hfoC, hwaC, hmeC, nfC, nwC, hbC, hweC, peC, ej, em2⟩ (fun j σ H' _ h => ?_) (fun j x σ HD hx h => ?_) (fun σ HD h => ?_)⟩
          · obtain ⟨_, _, _, _, _, _, _, _, _, _, _, _, _, hpp, _⟩ := h
            exact SqL.of hpp
          · obtain ⟨wv, L, M, y6, y7, rfl, sD, hfoD, hwaD, hmeD, nfD, nwD, hbD, hpD, peD, ejD, emD⟩ := h
            obtain ⟨pp, hpp, tt, rfl, htt⟩ := prs_at peD hx
            have hpe := List.mem_of_getElem? hpp
            obtain ⟨i1, j1, epp, hij, hj1, hgd⟩ := mem_evs.mp hpe
            have hbD' : Lst HD b r := hid_same _ _ _ _ hbD
            refine ⟨.ref b, rfl, .ref tt, rfl, b, tt, r, i1, j1, rfl, hbD'.sq, ?_, by omega, hj1, okr.row12, fun HE th sE hth hTh => ?_⟩
            · rw [epp] at htt
              exact SqT.of htt
            have eb : beh r i1 j1 = behP r pp := by rw [epp]; rfl
            rw [eb] at hTh
            have cM2 : M.length ≤ 4084101 := count_le ok ejD.nm ejD.rm
            have nthf : th ≠ fo := (ne_of_none hfoD hth).symm
            have nthw : th ≠ wa := (ne_of_none hwaD hth).symm
            have hthH : H th = none := sD.free hth
            refine ⟨.ref th, rfl, th, _, rfl, .inl ⟨hTh.sq, fun t3 ht3 => ?_⟩⟩
            have sF : Same HE (upd HE t3 (.tup ((behP r pp).map V.int))) := same_new ht3
            have ht3F : (upd HE t3 (.tup ((behP r pp).map V.int))) t3 = some (.tup ((rowKey (behP r pp)).map kV)) := by rw [rowKey_V]; exact upd_same
            have sDF : Same HD (upd HE t3 (.tup ((behP r pp).map V.int))) := sE.trans sF
            have hThF := hTh.mono sF
            generalize upd HE t3 (.tup ((behP r pp).map V.int)) = HF at sF ht3F sDF hThF
            have hmeF := sDF _ _ hmeD
            have lsF := Same.lsts (hid_mono (xs := [fo, wa]) sDF)
            refine ⟨.ref me, rfl, me, _, rfl, DGet.t (k := rowKey (behP r pp)) hmeF ht3F, _, rfl, ?_⟩
            rw [val_dRows]
            by_cases cN : behP r pp ∈ M
            · refine itN (by rw [decide_eq_true cN]; decide) ?_
              exact ⟨wv, L, M, _, _, rfl, sD.trans sDF, sDF _ _ hfoD, sDF _ _ hwaD, hmeF, nfD.mono lsF, nwD.mono lsF, lsF _ _ hbD, sDF _ _ hpD, peD.mono (Same.tups sDF), ejD.old hpp cN, emD⟩
            · refine itP (by rw [decide_eq_false cN]; rfl) ?_
              refine ⟨.ref me, rfl, .ref th, rfl, th, _, rfl, .inl ⟨hThF.sq, fun t4 ht4 => ?_⟩⟩
              have sG : Same HF (upd HF t4 (.tup ((behP r pp).map V.int))) := same_new ht4
              refine ⟨me, _, rfl, DPut.t (k := rowKey (behP r pp)) (sG _ _ hmeF) (by rw [rowKey_V]; exact upd_same) (lineB (by rw [dRows_length]; omega)), ?_⟩
              rw [put_dRows]
              have hmeG := sG _ _ hmeF
              have sHG := (sD.trans sDF).trans sG
              have sDG := sDF.trans sG
              have hThG := hThF.mono sG
              generalize upd HF t4 (.tup ((behP r pp).map V.int)) = HG at hmeG sHG sDG hThG
              have lI : Lsts HG (upd HG me (.dT (dRows (ins M (behP r pp))))) := lsts_dT hmeG
              have tI : TupS HG (upd HG me (.dT (dRows (ins M (behP r pp))))) := tups_dT hmeG
              have sI : Same H (upd HG me (.dT (dRows (ins M (behP r pp))))) := same_upd2 sHG hmeH
              have hmeI : (upd HG me (.dT (dRows (ins M (behP r pp))))) me = some (.dT (dRows (ins M (behP r pp)))) := upd_same
              have eM : ins M (behP r pp) = M ++ [behP r pp] := if_neg cN
              rw [eM] at hmeI lI tI sI ⊢
              generalize upd HG me (.dT (dRows (M ++ [behP r pp]))) = HI at lI tI sI hmeI
              have lDI : Lsts HD HI := (Same.lsts sDG).trans lI
              have hwaI := lDI _ _ hwaD
              have hfoI := lDI _ _ hfoD
              have hThI : Lst HI th (behP r pp) := lI _ _ hThG
              have lwv : wv.length = L.length := pd_len nwD
              have cL : L.length ≤ 4084101 := count_le ok ejD.nl fun x hx => ejD.rm x (ejD.lm x hx).1
              refine ⟨.ref wa, rfl, .inl ⟨rfl, _, SqL.of hwaI⟩, .ref th, rfl, wa, wv, _, rfl, rfl, hwaI, lineB (by omega), ?_⟩
              have hh2 : hid (upd HI wa (.lst (wv ++ [.ref th]))) [fo, wa] = hid HI [fo, wa] := hid_upd (by simp)
              have lsI := hid_lsts (xs := [fo, wa]) lDI
              refine ⟨wv ++ [.ref th], L ++ [behP r pp], M ++ [behP r pp], _, _, rfl, same_upd2 sI hwaH, by rw [upd_ne nfw]; exact hfoI, upd_same, by rw [upd_ne (ne_of hmeI hwaI (by intro z; cases z))]; exact hmeI, ?_, ?_, ?_, by rw [upd_ne npw]; exact lDI _ _ hpD, (peD.mono ((Same.tups sDG).trans tI)).mono (tups_lst hwaI), ejD.new hpp cN, ?_⟩
              · rw [hh2]
                exact nfD.mono lsI
              · rw [hh2]
                refine pd_app (nwD.mono lsI) (.cons ⟨th, rfl, ?_, hthH⟩ .nil)
                unfold Lst
                rw [hid_out (by simp [nthf, nthw])]
                exact hThI
              · rw [hh2]
                exact lsI _ _ hbD
              · rw [List.length_append, List.length_append]
                show m + (M.length + 1) = 4084103 + (L.length + 1)
                omega
          · obtain ⟨wv, L, M, y6, y7, rfl, sD, hfoD, hwaD, hmeD, nfD, nwD, hbD, hpD, peD, ejD, emD⟩ := h
            rw [pd_len peD] at ejD
            exact ⟨m - 1, by omega, fvC, wv, FdC, L, M, _, _, _, _, by omega, rfl, sD, hfoD, hwaD, hmeD, nfD, nwD, ejD.fin⟩
end
end EG

/-! _law_kinds: of which classes a refusal is; a call of what a slot holds. -/
namespace EG
open PySem PySem.Spec PyProof.Rows L2
section
variable {X : Cx} {k i : Nat} {x : Str} {p pos : Pos} {e : Expr} {es : List Expr} {t : TA}
/-- what a def that a slot may hold promises -/
def HeldX (P : Program) (w : World) (K : PySem.W.Frag) (mg : Str → Option Value) (base : Heap) (k : Nat) (f : Addr) (sp : Sp) : Prop :=
  ∃ (fd : FuncData) (ps : List Str), FnOk P w K mg base (L2.CX P w) k f fd ps sp ∧ PySem.W.keepIn K (.ref f) = true ∧ Binds K fd ps []
theorem Cal.held {P : Program} {w : World} {K : PySem.W.Frag} {mg : Str → Option Value} {base : Heap} {x : Str} {ps : List Str} {j k : Nat} {sp : Sp} {f : Addr} (c : Cal (L2.CX P w) P w K mg base x ps j sp) (g : mg x = some (.ref f)) (h : j ≤ k) : HeldX P w K mg base k f sp := by
  obtain ⟨f', fd, F, gf, kf, bf⟩ := c
  rw [g] at gf
  cases gf
  exact ⟨fd, ps, F.mono h, kf, bf⟩
def tCallAX (i : Nat) (S : Addr → Sp → Prop) (E : XK) (t : TA) : TE := fun σ H Q => ∃ f sp, σ[i]? = some (some (.ref f)) ∧ S f sp ∧ t σ H fun vs H1 => sp vs H1 Q E
theorem pe_callAX {E : XK} {S : Addr → Sp → Prop} (A : ∀ f sp, S f sp → HeldX X.prog X.w X.K X.mg X.base k f sp) (hr : Room k X.A) (hx : Passes (L2.CX X.prog X.w) X E) (hN : X.N[i]? = some x) (hv : Vis X.env.scope x) (ha : PA X (e :: es) t)
    (hdb : (x == ("__debug__" : Str)) = false := by decide) (hcd : (x == ("__classdict__" : Str)) = false := by decide)
    (he : starEach (e :: es) X.env = (false, eval e X.env) :: starEach es X.env := by rfl) (hpl : (backTo pos (starEach es X.env)).any (·.1) = false := by rfl) : PE X (.Call (.Name x p) (e :: es) [] pos) (tCallAX i S E t) := by
  refine ⟨fun pins s σ H Q I h => ?_⟩
  obtain ⟨f, sp, hs, hS, ht⟩ := h
  obtain ⟨fd, ps, F, hk, hb⟩ := A f sp hS
  refine (pe_callL (i := i) (f := f) (sp := sp) (dvs := []) (E := E) F hr hN hv hk hb .nil hx ha hdb hcd he hpl).run pins s σ H Q I ⟨hs, ?_⟩
  have e0 : (fun (vs : List V) (H1 : Hp) => sp (vs ++ []) H1 Q E) = fun vs H1 => sp vs H1 Q E := by
    funext vs H1
    rw [List.append_nil]
  show t σ H (fun vs H1 => sp (vs ++ []) H1 Q E)
  rw [e0]
  exact ht
end
/-- what is known of the refusals' classes -/
structure KdF (K : PySem.W.Frag) (CB CE CG : Addr) : Prop where
  eB : ExcC K CB
  eE : ExcC K CE
  gB : PySem.W.exmOne K (.ref CB) (.ref CG) = some true
  gE : PySem.W.exmOne K (.ref CE) (.ref CG) = some true
  bb : PySem.W.kitOne K (.ref CB) (.ref CB) = some true
  be : PySem.W.kitOne K (.ref CB) (.ref CE) = some false
  eb : PySem.W.kitOne K (.ref CE) (.ref CB) = some false
  ee : PySem.W.kitOne K (.ref CE) (.ref CE) = some true
  bv : PySem.W.kitOne K (.ref CB) (.type "ValueError") = some true
  ev : PySem.W.kitOne K (.ref CE) (.type "ValueError") = some true
/-- _law_kinds(lambda: ..): the answer at a refusal -/
def TKinds (CB CE : Addr) : (XK → Hp → VK → Prop) → Hp → VK → Prop := fun tl H Q => ∀ fo, H fo = none → ∀ Q',
  tl (fun cls d H' => d = none ∧ ((cls = .ref CB ∧ ∀ l, H' l = none → Q (.ref l) (upd H' l (.lst [.bl true, .bl false, .bl true]))) ∨ (cls = .ref CE ∧ ∀ l, H' l = none → Q (.ref l) (upd H' l (.lst [.bl false, .bl true, .bl true])))))
    (upd H fo (.lst [])) Q'
def TSK (CB CE : Addr) (a : Addr) (cls : Value) (d : Option Addr) : TS := fun D σ H => (∃ σ0 : L2.St, σ = σ0.set 2 (some (.ref a))) ∧ d = none ∧
  ((cls = .ref CB ∧ ∀ l, H l = none → σ.length = 3 → D.nx (σ.set 1 (some (.ref l))) (upd H l (.lst [.bl true, .bl false, .bl true]))) ∨ (cls = .ref CE ∧ ∀ l, H l = none → σ.length = 3 → D.nx (σ.set 1 (some (.ref l))) (upd H l (.lst [.bl false, .bl true, .bl true]))))
section
variable {X : Cx}
theorem kinds_gives {q : Str} {g CB CE CG : Addr} {cdg : Value} (hB : X.mg "BadRow" = some (.ref CB)) (hE : X.mg "BadEvening" = some (.ref CE)) (hG : X.mg "GlassError" = some (.ref CG)) (hV : X.mg "ValueError" = none) (hI : X.mg "isinstance" = none)
    (D : KdF X.K CB CE CG) : LamX.GivesTo X ["_law_ask", "_law_found", "error"] "_law_kinds" (defScope s_l_kinds) g cdg (defBody s_l_kinds) "_law_ask" q (TKinds CB CE) := by
  intro f c' s H Q tl act hc h
  have two : ∀ (σ0 : L2.St) (a : Addr), (σ0.set 2 (some (V.ref a))).length = 3 → (σ0.set 2 (some (V.ref a)))[2]? = some (some (V.ref a)) := fun σ0 a hl => by
    rw [List.length_set] at hl
    rw [List.getElem?_set_self (by omega)]
  refine ⟨_, pss_cons (ps_set (i := 1) sc_l_kinds.nd rfl (.inl rfl) (pe_lst pa_nil))
    (pss_cons (ps_try_as (i := 2) (X := (cxOf C8.CX0 X.prog X.w X.K X.mg X.base ["_law_ask", "_law_found", "error"] "_law_kinds" (defScope s_l_kinds) g cdg X.A X.stack s H C8.E0).nox) (c := .ref CG)
      (tb := fun W D σ H => ∃ Ech : XK, (∀ cls d σ' H', Ech cls d H' → W cls d σ' H') ∧ σ[0]? = some (some (.ref f)) ∧ H c' = some (LamX.CodeO c' q) ∧ tl Ech H (fun _ H' => D.nx σ H'))
      (ts := TSK CB CE)
      rfl rfl sc_l_kinds.nd rfl rfl ⟨rfl, by decide, .inl hG⟩ LamX.takes0 (fun W pn xe tk _ => ?_) (fun a oe cls d pn hz hf => ?_))
    (pss_one (ps_ret (pv 1)))), ?_⟩
  · refine ⟨fun pins s' σ H' D I h' => ?_⟩
    obtain ⟨Ech, hW, h1, h2, h3⟩ := h'
    exact PSs.run (pss_one (ps_expr (act W pn xe Ech _ _ tk hW))) pins s' σ H' D I ⟨h1, h2, h3⟩
  · refine ⟨fun pins s' σ H' D' I h' => ?_⟩
    obtain ⟨⟨σ0, rfl⟩, rfl, ⟨rfl, h2⟩ | ⟨rfl, h2⟩⟩ := h'
    · have hl : (σ0.set 2 (some (V.ref a))).length = 3 := I.len
      have e2 := two _ _ hl
      refine (pss_one (ps_set (i := 1) sc_l_kinds.nd rfl (.inl rfl) (pe_lst (pa_cons (pe_callB (X := ((cxOf C8.CX0 X.prog X.w X.K X.mg X.base ["_law_ask", "_law_found", "error"] "_law_kinds" (defScope s_l_kinds) g cdg X.A X.stack s H C8.E0).nox).suite a ((a, oe) :: pn)) (r := rIsE X.K CB a) (call_isE (X := (cxOf C8.CX0 X.prog X.w X.K X.mg X.base ["_law_ask", "_law_found", "error"] "_law_kinds" (defScope s_l_kinds) g cdg X.A X.stack s H C8.E0).nox) D.eB hz hf) (by rfl) hI PyProof.Rows.boot_isinstance (pa_cons (pv 2) (pa_cons (pe_glob (v := .ref CB) (by rfl) hB rfl) pa_nil)))
        (pa_cons (pe_callB (X := ((cxOf C8.CX0 X.prog X.w X.K X.mg X.base ["_law_ask", "_law_found", "error"] "_law_kinds" (defScope s_l_kinds) g cdg X.A X.stack s H C8.E0).nox).suite a ((a, oe) :: pn)) (r := rIsE X.K CB a) (call_isE (X := (cxOf C8.CX0 X.prog X.w X.K X.mg X.base ["_law_ask", "_law_found", "error"] "_law_kinds" (defScope s_l_kinds) g cdg X.A X.stack s H C8.E0).nox) D.eB hz hf) (by rfl) hI PyProof.Rows.boot_isinstance (pa_cons (pv 2) (pa_cons (pe_glob (v := .ref CE) (by rfl) hE rfl) pa_nil)))
        (pa_cons (pe_callB (X := ((cxOf C8.CX0 X.prog X.w X.K X.mg X.base ["_law_ask", "_law_found", "error"] "_law_kinds" (defScope s_l_kinds) g cdg X.A X.stack s H C8.E0).nox).suite a ((a, oe) :: pn)) (r := rIsE X.K CB a) (call_isE (X := (cxOf C8.CX0 X.prog X.w X.K X.mg X.base ["_law_ask", "_law_found", "error"] "_law_kinds" (defScope s_l_kinds) g cdg X.A X.stack s H C8.E0).nox) D.eB hz hf) (by rfl) hI PyProof.Rows.boot_isinstance (pa_cons (pv 2) (pa_cons (pe_bltn (v := .ty "ValueError") (by rfl) hV (by rfl) rfl) pa_nil))) pa_nil)))))).run pins s' _ H' D' I ?_
      exact ⟨_, e2, _, _, _, rfl, fun u hu => hu, D.bb, _, e2, _, _, _, rfl, fun u hu => hu, D.be, _, e2, _, _, _, rfl, fun u hu => hu, D.bv, (by show 3 ≤ sizeLine; decide), fun l hl2 => h2 l hl2 hl⟩
    · have hl : (σ0.set 2 (some (V.ref a))).length = 3 := I.len
      have e2 := two _ _ hl
      refine (pss_one (ps_set (i := 1) sc_l_kinds.nd rfl (.inl rfl) (pe_lst (pa_cons (pe_callB (X := ((cxOf C8.CX0 X.prog X.w X.K X.mg X.base ["_law_ask", "_law_found", "error"] "_law_kinds" (defScope s_l_kinds) g cdg X.A X.stack s H C8.E0).nox).suite a ((a, oe) :: pn)) (r := rIsE X.K CE a) (call_isE (X := (cxOf C8.CX0 X.prog X.w X.K X.mg X.base ["_law_ask", "_law_found", "error"] "_law_kinds" (defScope s_l_kinds) g cdg X.A X.stack s H C8.E0).nox) D.eE hz hf) (by rfl) hI PyProof.Rows.boot_isinstance (pa_cons (pv 2) (pa_cons (pe_glob (v := .ref CB) (by rfl) hB rfl) pa_nil)))
        (pa_cons (pe_callB (X := ((cxOf C8.CX0 X.prog X.w X.K X.mg X.base ["_law_ask", "_law_found", "error"] "_law_kinds" (defScope s_l_kinds) g cdg X.A X.stack s H C8.E0).nox).suite a ((a, oe) :: pn)) (r := rIsE X.K CE a) (call_isE (X := (cxOf C8.CX0 X.prog X.w X.K X.mg X.base ["_law_ask", "_law_found", "error"] "_law_kinds" (defScope s_l_kinds) g cdg X.A X.stack s H C8.E0).nox) D.eE hz hf) (by rfl) hI PyProof.Rows.boot_isinstance (pa_cons (pv 2) (pa_cons (pe_glob (v := .ref CE) (by rfl) hE rfl) pa_nil)))
        (pa_cons (pe_callB (X := ((cxOf C8.CX0 X.prog X.w X.K X.mg X.base ["_law_ask", "_law_found", "error"] "_law_kinds" (defScope s_l_kinds) g cdg X.A X.stack s H C8.E0).nox).suite a ((a, oe) :: pn)) (r := rIsE X.K CE a) (call_isE (X := (cxOf C8.CX0 X.prog X.w X.K X.mg X.base ["_law_ask", "_law_found", "error"] "_law_kinds" (defScope s_l_kinds) g cdg X.A X.stack s H C8.E0).nox) D.eE hz hf) (by rfl) hI PyProof.Rows.boot_isinstance (pa_cons (pv 2) (pa_cons (pe_bltn (v := .ty "ValueError") (by rfl) hV (by rfl) rfl) pa_nil))) pa_nil)))))).run pins s' _ H' D' I ?_
      exact ⟨_, e2, _, _, _, rfl, fun u hu => hu, D.eb, _, e2, _, _, _, rfl, fun u hu => hu, D.ee, _, e2, _, _, _, rfl, fun u hu => hu, D.ev, (by show 3 ≤ sizeLine; decide), fun l hl2 => h2 l hl2 hl⟩
  · refine ⟨Nat.zero_le _, fun fo hfo => ?_⟩
    have nfc : c' ≠ fo := ne_of_none hc hfo
    refine ⟨_, fun cls d σ' H' hh => ?_, rfl, by rw [upd_ne nfc]; exact hc, h fo hfo _⟩
    obtain ⟨rfl, ⟨rfl, h2⟩ | ⟨rfl, h2⟩⟩ := hh
    · refine ⟨true, D.gB, fun _ a _ => ⟨⟨σ', rfl⟩, rfl, .inl ⟨rfl, fun l hl h3 => ?_⟩⟩, fun z => nomatch z⟩
      refine ⟨.ref l, ?_, h2 l hl⟩
      rw [List.length_set] at h3
      rw [List.getElem?_set_ne (by decide), List.getElem?_set_self (by rw [List.length_set]; omega)]
    · refine ⟨true, D.gE, fun _ a _ => ⟨⟨σ', rfl⟩, rfl, .inr ⟨rfl, fun l hl h3 => ?_⟩⟩, fun z => nomatch z⟩
      refine ⟨.ref l, ?_, h2 l hl⟩
      rw [List.length_set] at h3
      rw [List.getElem?_set_ne (by decide), List.getElem?_set_self (by rw [List.length_set]; omega)]
end
end EG

/-! _law_strange, _law_no_rows: what is no number, what is no row. -/
namespace EG
open PySem L2
/-- is it a number, whatever else comes or goes -/
def WhL (K : PySem.W.Frag) (H : Hp) (x : V) (b : Bool) : Prop := ∀ H' : Hp, (∀ c o, x = .ref c → H c = some o → (∀ ps, o ≠ .tbl ps) → H' c = some o) → Whole K H' x b
theorem WhL.wh {K : PySem.W.Frag} {H : Hp} {x : V} {b : Bool} (h : WhL K H x b) : Wh K H x b := fun H' s => h H' fun c o _ e n => s c o e n
theorem WhL.at {K : PySem.W.Frag} {H H1 : Hp} {x : V} {b : Bool} (h : WhL K H x b) (s : ∀ c o, x = .ref c → H c = some o → (∀ ps, o ≠ .tbl ps) → H1 c = some o) : WhL K H1 x b := fun H' s' => h H' fun c o e z n => s' c o e (s c o e z n) n
theorem wh_not {K : PySem.W.Frag} {H : Hp} {x : V} {t : Value} (h : ∀ H' : Hp, (∀ c o, x = .ref c → H c = some o → (∀ ps, o ≠ .tbl ps) → H' c = some o) → TyX K H' x t) (k : PySem.W.kitOne K t (.type "int") = some false) : WhL K H x false := fun H' s => ⟨t, false, false, h H' s, k, fun z => (nomatch z), rfl⟩
theorem wh_non {K : PySem.W.Frag} {H : Hp} : WhL K H .non false := wh_not (fun _ _ => .base .non) (kit_ty (by decide +kernel))
theorem wh_str {K : PySem.W.Frag} {H : Hp} (z : Str) : WhL K H (.str z) false := wh_not (fun _ _ => .base (.str z)) (kit_ty (by decide +kernel))
theorem wh_bl {K : PySem.W.Frag} {H : Hp} (b : Bool) : WhL K H (.bl b) false := fun H' s => ⟨_, true, true, .base (.bl b), kit_ty (by decide +kernel), fun _ => kit_ty (by decide +kernel), rfl⟩
theorem wh_lst {K : PySem.W.Frag} {H : Hp} {a : Addr} {xs : List V} (h : H a = some (.lst xs)) : WhL K H (.ref a) false := wh_not (fun _ s => .base (.lst (s _ _ rfl h (fun _ z => nomatch z)))) (kit_ty (by decide +kernel))
theorem wh_tup {K : PySem.W.Frag} {H : Hp} {a : Addr} {xs : List V} (h : H a = some (.tup xs)) : WhL K H (.ref a) false := wh_not (fun _ s => .base (.tup (s _ _ rfl h (fun _ z => nomatch z)))) (kit_ty (by decide +kernel))
theorem wh_dT {K : PySem.W.Frag} {H : Hp} {a : Addr} {xs : List (List Key × V)} (h : H a = some (.dT xs)) : WhL K H (.ref a) false := wh_not (fun _ s => .base (.dT (s _ _ rfl h (fun _ z => nomatch z)))) (kit_ty (by decide +kernel))
/-- no number, or one below 0 -/
def Odd (K : PySem.W.Frag) (H : Hp) (x : V) : Prop := WhL K H x false ∨ ∃ n : Int, x = .int n ∧ n < 0
theorem Odd.at {K : PySem.W.Frag} {H H1 : Hp} {x : V} (h : Odd K H x) (s : ∀ c o, x = .ref c → H c = some o → (∀ ps, o ≠ .tbl ps) → H1 c = some o) : Odd K H1 x := by
  rcases h with h | h
  · exact .inl (h.at s)
  · exact .inr h
theorem Odd.item {K : PySem.W.Frag} {H : Hp} {x : V} {g : Int} (h : Odd K H x) : ItemOk K H g x false := by
  rcases h with h | ⟨n, e, h⟩
  · exact .inl ⟨rfl, h.wh⟩
  · refine .inr ⟨n, e, ?_⟩
    have : ¬ (0 ≤ n ∧ n ≤ g) := by omega
    rw [decide_eq_false this]
theorem NotTy.of {K : PySem.W.Frag} {H : Hp} {v : V} {T : String} {t : Value} (h : ∀ H', LamX.ExtN H H' → TyX K H' v t) (k : PySem.W.kitOne K t (.type T) = some false) : NotTy K H v T := ⟨t, h, k⟩
theorem RowBad.ext {K : PySem.W.Frag} {H H1 : Hp} {m g : Int} {v : V} (s : LamX.ExtN H H1) (h : RowBad K H m g v) : RowBad K H1 m g v := by
  rcases h with h | ⟨a, xs, e, hx, hl, h | ⟨h1, h2, bs, hp, hb⟩⟩
  · exact .inl (h.ext s)
  · exact .inr ⟨a, xs, e, s _ _ hx (fun _ z => nomatch z), hl, .inl h⟩
  · exact .inr ⟨a, xs, e, s _ _ hx (fun _ z => nomatch z), hl, .inr ⟨h1, h2, bs, Paired.mapP hp fun _ _ q => q.ext s, hb⟩⟩
theorem RowBad.mono {K : PySem.W.Frag} {H H1 : Hp} {m g : Int} {v : V} (s : Same H H1) (h : RowBad K H m g v) : RowBad K H1 m g v := h.ext (.of s)
section
variable {P : Program} {w : World} {K : PySem.W.Frag} {mg : Str → Option Value} {base : Heap}
def sp_strange (K : PySem.W.Frag) : Sp := fun vs H Q _ => ∃ far : Int, vs = [.int far] ∧ 0 ≤ far ∧ ∀ H' p xs, Same H H' → H p = none → H' p = some (.lst xs) → xs.length = 9 → (∀ x ∈ xs, Odd K H' x ∧ ∀ b, x = .ref b → H b = none) → Q (.ref p) H'
abbrev N_l_strange : List Str := ["_law_far"]
theorem ok_strange {f : Addr} {fd : FuncData} (F : Fun K "_law_strange" "_law_strange" s_l_strange f fd) (B : Blt mg) : FnOk P w K mg base CX0 1 f fd ["_law_far"] (sp_strange K) := by
  refine F.ok sc_l_strange (fun vs H Q E h => ?_) (fun cdv A outer s H vs Q E hr h => ?_)
  · obtain ⟨far, rfl, _⟩ := h
    rfl
  · obtain ⟨far, rfl, h0, q⟩ := h
    refine ⟨_, (pss_one (ps_ret (pe_lst (pa_cons pe_non (pa_cons pe_str (pa_cons pe_bl (pa_cons pe_bl (pa_cons (pe_lst (pa_cons pe_int pa_nil)) (pa_cons (pe_tup (pa_cons pe_int pa_nil)) (pa_cons pe_dnewT (pa_cons (pe_un un_neg pe_int) (pa_cons (pe_op op_sub (pe_un un_neg pe_int) (pv 0)) pa_nil)))))))))))), ?_⟩
    refine ⟨(by show 1 ≤ sizeLine; decide), fun l hl => ⟨(by show 1 ≤ sizeLine; decide), fun t ht => fun d hd => ?_⟩⟩
    have s1 : Same H (upd H l (.lst [.int 1])) := same_new hl
    have s2 : Same (upd H l (.lst [.int 1])) (upd (upd H l (.lst [.int 1])) t (.tup [.int 1])) := same_new ht
    have s3 : Same (upd (upd H l (.lst [.int 1])) t (.tup [.int 1])) (upd (upd (upd H l (.lst [.int 1])) t (.tup [.int 1])) d (.dT [])) := same_new hd
    have e1 := s3 _ _ (s2 _ _ (show (upd H l (.lst [.int 1])) l = some (.lst [.int 1]) from upd_same))
    have e2 := s3 _ _ (show (upd (upd H l (.lst [.int 1])) t (.tup [.int 1])) t = some (.tup [.int 1]) from upd_same)
    have e3 : (upd (upd (upd H l (.lst [.int 1])) t (.tup [.int 1])) d (.dT [])) d = some (.dT []) := upd_same
    have sA := (s1.trans s2).trans s3
    refine ⟨_, rfl, _, rfl, .int far, rfl, _, _, rfl, rfl, (by show 9 ≤ sizeLine; decide), fun p hp => ?_⟩
    have s4 := same_new (o := .lst [.non, .str "1", .bl true, .bl false, .ref l, .ref t, .ref d, .int (-1), .int (-1 - far)]) hp
    refine q _ p _ (sA.trans s4) (sA.free hp) upd_same rfl fun x hx => ?_
    simp only [List.mem_cons, List.not_mem_nil, or_false] at hx
    have n1 : H l = none := hl
    have n2 : H t = none := s1.free ht
    have n3 : H d = none := (s1.trans s2).free hd
    rcases hx with rfl | rfl | rfl | rfl | rfl | rfl | rfl | rfl | rfl
    · exact ⟨.inl wh_non, fun b e => nomatch e⟩
    · exact ⟨.inl (wh_str _), fun b e => nomatch e⟩
    · exact ⟨.inl (wh_bl _), fun b e => nomatch e⟩
    · exact ⟨.inl (wh_bl _), fun b e => nomatch e⟩
    · exact ⟨.inl (wh_lst (s4 _ _ e1)), fun b e => by cases e; exact n1⟩
    · exact ⟨.inl (wh_tup (s4 _ _ e2)), fun b e => by cases e; exact n2⟩
    · exact ⟨.inl (wh_dT (s4 _ _ e3)), fun b e => by cases e; exact n3⟩
    · exact ⟨.inr ⟨_, rfl, by decide⟩, fun b e => nomatch e⟩
    · exact ⟨.inr ⟨_, rfl, by omega⟩, fun b e => nomatch e⟩
end
end EG

/-! _law_no_rows: what is no row. -/
namespace EG
open PySem L2
theorem flat_one (n : Nat) (x : V) : (List.replicate n [x]).flatten = List.replicate n x := by
  induction n with
  | zero => rfl
  | succ n ih => rw [List.replicate_succ, List.flatten_cons, ih, List.replicate_succ]; rfl
theorem bad_len {K : PySem.W.Frag} {H : Hp} {a : Addr} {xs : List V} {m g : Int} (h : H a = some (.lst xs)) (l : xs.length ≤ 900) (n : ¬ (1 ≤ (xs.length : Int) ∧ (xs.length : Int) ≤ m)) : RowBad K H m g (.ref a) := .inr ⟨a, xs, rfl, h, l, .inl n⟩
section
variable {P : Program} {w : World} {K : PySem.W.Frag} {mg : Str → Option Value} {base : Heap}
def sp_no_rows (K : PySem.W.Frag) : Sp := fun vs H Q _ => ∃ far m g : Int, vs = [.int far, .int m, .int g] ∧ 1 ≤ far ∧ 3 ≤ m ∧ m ≤ 12 ∧ 2 ≤ g ∧ ∀ H' p ws, Same H H' → H p = none → H' p = some (.lst ws) → (∀ v ∈ ws, RowBad K H' m g v) → Q (.ref p) H'
abbrev N_l_no_rows : List Str := ["_law_far", "_law_most", "_law_greatest", "_law_bad", "_law_strange_here", "_law_row"]
theorem ok_no_rows {f : Addr} {fd : FuncData} (F : Fun K "_law_no_rows" "_law_no_rows" s_l_no_rows f fd) (B : Blt mg) (c_l_strange : Cal CX0 P w K mg base "_law_strange" ["_law_far"] 1 (sp_strange K)) : FnOk P w K mg base CX0 2 f fd ["_law_far", "_law_most", "_law_greatest"] (sp_no_rows K) := by
  refine F.ok sc_l_no_rows (fun vs H Q E h => ?_) (fun cdv A outer s H vs Q E hr h => ?_)
  · obtain ⟨far, m, g, rfl, _⟩ := h
    rfl
  · obtain ⟨far, m, g, rfl, h1, h3, h12, hg, q⟩ := h
    refine ⟨_, (pss_cons (ps_set (i := 3) sc_l_no_rows.nd rfl (.inl rfl) (pe_lst (pa_cons pe_non (pa_cons pe_int (pa_cons pe_str (pa_cons (pe_tup pa_nil) (pa_cons (pe_tup (pa_cons pe_int (pa_cons pe_int pa_nil))) (pa_cons pe_dnewT (pa_cons (pe_lst pa_nil) (pa_cons (pe_op op_rep (pe_lst (pa_cons pe_int pa_nil)) (pe_op op_add (pv 1) pe_int)) (pa_cons (pe_op op_rep (pe_lst (pa_cons pe_int pa_nil)) (pe_op op_add (pe_op op_add (pv 1) (pe_op op_mod (pv 0) pe_int)) pe_int)) pa_nil)))))))))))
    (pss_cons (ps_for PassesOwn.never rfl (pi_list (pe_op op_cat (pe_cal c_l_strange hr (by rfl) (pa_cons (pv 0) pa_nil)) (pe_lst (pa_cons (pe_op op_add (pv 2) pe_int) (pa_cons (pe_op op_add (pv 2) (pv 0)) pa_nil))))) (pg_name (i := 4) sc_l_no_rows.nd rfl (.inl rfl))
    (pss_cons (ps_set (i := 5) sc_l_no_rows.nd rfl (.inl rfl) (pe_lst (pa_cons pe_int (pa_cons pe_int pa_nil))))
      (pss_cons (ps_expr (pe_bm PySem.F.plainAttrs_list PySem.F.slot_list_insert PySem.F.type_list_insert mt_insert (pv 5) (pa_cons (pe_op op_mod (pe_op op_fdiv (pv 0) pe_int) pe_int) (pa_cons (pv 4) pa_nil))))
      (pss_one (ps_expr (pe_bm PySem.F.plainAttrs_list PySem.F.slot_list_append PySem.F.type_list_append mt_append (pv 3) (pa_cons (pv 5) pa_nil)))))))
    (pss_one (ps_ret (pv 3))))), ?_⟩
    refine ⟨Nat.zero_le _, fun t1 ht1 => ⟨(by show 2 ≤ sizeLine; decide), fun t2 ht2 => fun d hd => ⟨Nat.zero_le _, fun l1 hl1 => ⟨(by show 1 ≤ sizeLine; decide), fun l2 hl2 => ?_⟩⟩⟩⟩
    have c1 : Same H (upd H t1 (.tup [])) := same_new ht1
    have e1 : (upd H t1 (.tup [])) t1 = some (.tup []) := upd_same
    generalize upd H t1 (.tup []) = G1 at c1 e1 ht2 hd hl1 hl2 ⊢
    have c2 : Same G1 (upd G1 t2 (.tup [.int 1, .int 2])) := same_new ht2
    have e2 : (upd G1 t2 (.tup [.int 1, .int 2])) t2 = some (.tup [.int 1, .int 2]) := upd_same
    generalize upd G1 t2 (.tup [.int 1, .int 2]) = G2 at c2 e2 hd hl1 hl2 ⊢
    have c3 : Same G2 (upd G2 d (.dT [])) := same_new hd
    have e3 : (upd G2 d (.dT [])) d = some (.dT []) := upd_same
    generalize upd G2 d (.dT []) = G3 at c3 e3 hl1 hl2 ⊢
    have c4 : Same G3 (upd G3 l1 (.lst [])) := same_new hl1
    have e4 : (upd G3 l1 (.lst [])) l1 = some (.lst []) := upd_same
    generalize upd G3 l1 (.lst []) = G4 at c4 e4 hl2 ⊢
    have c5 : Same G4 (upd G4 l2 (.lst [.int 0])) := same_new hl2
    have e5 : (upd G4 l2 (.lst [.int 0])) l2 = some (.lst [.int 0]) := upd_same
    generalize upd G4 l2 (.lst [.int 0]) = G5 at c5 e5 ⊢
    refine ⟨.int m, rfl, _, _, rfl, rfl, l2, m + 1, _, rfl, rfl, e5, by omega, by omega, by show 1 * (m + 1).toNat ≤ sizeLine; exact Nat.le_of_lt (lineB (by omega)), fun l3 hl3 => ?_⟩
    rw [flat_one]
    have c6 : Same G5 (upd G5 l3 (.lst (List.replicate (m + 1).toNat (.int 0)))) := same_new hl3
    have e6 : (upd G5 l3 (.lst (List.replicate (m + 1).toNat (.int 0)))) l3 = some (.lst (List.replicate (m + 1).toNat (.int 0))) := upd_same
    generalize upd G5 l3 (.lst (List.replicate (m + 1).toNat (.int 0))) = G6 at c6 e6 ⊢
    refine ⟨(by show 1 ≤ sizeLine; decide), fun l4 hl4 => ?_⟩
    have c7 : Same G6 (upd G6 l4 (.lst [.int 1])) := same_new hl4
    have e7 : (upd G6 l4 (.lst [.int 1])) l4 = some (.lst [.int 1]) := upd_same
    generalize upd G6 l4 (.lst [.int 1]) = G7 at c7 e7 ⊢
    have f9 : 0 ≤ far % 9 ∧ far % 9 < 9 := ⟨by omega, by omega⟩
    refine ⟨.int m, rfl, .int far, rfl, _, _, rfl, rfl, (by show (0 : Int) < 9; decide), _, _, rfl, rfl, _, _, rfl, rfl, l4, m + far % 9 + 1, _, rfl, rfl, e7, by omega, by omega, by show 1 * (m + far % 9 + 1).toNat ≤ sizeLine; exact Nat.le_of_lt (lineB (by omega)), fun l5 hl5 => ?_⟩
    rw [flat_one]
    have c8 : Same G7 (upd G7 l5 (.lst (List.replicate (m + far % 9 + 1).toNat (.int 1)))) := same_new hl5
    have e8 : (upd G7 l5 (.lst (List.replicate (m + far % 9 + 1).toNat (.int 1)))) l5 = some (.lst (List.replicate (m + far % 9 + 1).toNat (.int 1))) := upd_same
    generalize upd G7 l5 (.lst (List.replicate (m + far % 9 + 1).toNat (.int 1))) = G8 at c8 e8 ⊢
    refine ⟨(by show 9 ≤ sizeLine; decide), fun bd hbd => ?_⟩
    have d8 := c8
    have d6 := (c7.trans d8)
    have d5 := c6.trans d6
    have d4 := c5.trans d5
    have d3 := c4.trans d4
    have d2 := c3.trans d3
    have d1 := c2.trans d2
    have d0 := c1.trans d1
    have nine : ∀ v ∈ [V.non, .int 5, .str "12", .ref t1, .ref t2, .ref d, .ref l1, .ref l3, .ref l5], RowBad K G8 m g v := fun v hv => by
      simp only [List.mem_cons, List.not_mem_nil, or_false] at hv
      rcases hv with rfl | rfl | rfl | rfl | rfl | rfl | rfl | rfl | rfl
      · exact .inl (.of (fun _ _ => .base .non) (kit_ty (by decide +kernel)))
      · exact .inl (.of (fun _ _ => .base (.int 5)) (kit_ty (by decide +kernel)))
      · exact .inl (.of (fun _ _ => .base (.str _)) (kit_ty (by decide +kernel)))
      · exact .inl (.of (fun _ s => .base (.tup (s _ _ (d1 _ _ e1) (fun _ z => nomatch z)))) (kit_ty (by decide +kernel)))
      · exact .inl (.of (fun _ s => .base (.tup (s _ _ (d2 _ _ e2) (fun _ z => nomatch z)))) (kit_ty (by decide +kernel)))
      · exact .inl (.of (fun _ s => .base (.dT (s _ _ (d3 _ _ e3) (fun _ z => nomatch z)))) (kit_ty (by decide +kernel)))
      · exact bad_len (d4 _ _ e4) (by decide) (fun z => absurd z.1 (by decide))
      · exact bad_len (d6 _ _ e6) (by rw [List.length_replicate]; omega) (by rw [List.length_replicate]; omega)
      · exact bad_len e8 (by rw [List.length_replicate]; omega) (by rw [List.length_replicate]; omega)
    have hbdH : H bd = none := (c1.trans (c2.trans (c3.trans (c4.trans (c5.trans (c6.trans (c7.trans c8))))))).free hbd
    have hbd9 : (upd G8 bd (.lst [.non, .int 5, .str "12", .ref t1, .ref t2, .ref d, .ref l1, .ref l3, .ref l5])) bd = some (.lst [.non, .int 5, .str "12", .ref t1, .ref t2, .ref d, .ref l1, .ref l3, .ref l5]) := upd_same
    have c9 := same_new (o := .lst [V.non, .int 5, .str "12", .ref t1, .ref t2, .ref d, .ref l1, .ref l3, .ref l5]) hbd
    have nine9 : ∀ v ∈ [V.non, .int 5, .str "12", .ref t1, .ref t2, .ref d, .ref l1, .ref l3, .ref l5], RowBad K (hid (upd G8 bd (.lst [V.non, .int 5, .str "12", .ref t1, .ref t2, .ref d, .ref l1, .ref l3, .ref l5])) [bd]) m g v := fun v hv => (nine v hv).mono fun b o e => by
      have nb : b ≠ bd := ne_of_none e hbd
      rw [hid_out (by simp [nb]), upd_ne nb]
      exact e
    have d9 := d0.trans c9
    generalize upd G8 bd (.lst [V.non, .int 5, .str "12", .ref t1, .ref t2, .ref d, .ref l1, .ref l3, .ref l5]) = G9 at nine9 d9 hbd9
    -- the strange ones
    refine ⟨.int far, rfl, far, rfl, by omega, fun HA st xs sA hst hxs lx odd => ?_⟩
    refine ⟨.int g, rfl, _, _, rfl, rfl, .int g, rfl, .int far, rfl, _, _, rfl, rfl, (by show 2 ≤ sizeLine; decide), fun p2 hp2 => ?_⟩
    have sB : Same HA (upd HA p2 (.lst [.int (g + 1), .int (g + far)])) := same_new hp2
    refine ⟨st, p2, xs, _, rfl, rfl, sB _ _ hxs, upd_same, by rw [lx]; show 9 + 2 ≤ sizeLine; decide, fun all hall => ?_⟩
    have sC := same_new (o := .lst (xs ++ [.int (g + 1), .int (g + far)])) hall
    have hallC : (upd (upd HA p2 (.lst [.int (g + 1), .int (g + far)])) all (.lst (xs ++ [.int (g + 1), .int (g + far)]))) all = some (.lst (xs ++ [.int (g + 1), .int (g + far)])) := upd_same
    have sAC := sA.trans (sB.trans sC)
    have nba : all ≠ bd := (ne_of_none (sB _ _ (sA _ _ hbd9)) hall).symm
    have items : ∀ x ∈ (xs ++ [V.int (g + 1), .int (g + far)]), (∀ b, x = .ref b → b ≠ bd) ∧ ((WhL K (upd (upd HA p2 (.lst [.int (g + 1), .int (g + far)])) all (.lst (xs ++ [V.int (g + 1), .int (g + far)]))) x false) ∨ ∃ n : Int, x = .int n ∧ ¬ (0 ≤ n ∧ n ≤ g)) := fun x hx => by
      rcases List.mem_append.mp hx with hx | hx
      · obtain ⟨h1, h2⟩ := odd x hx
        refine ⟨fun b e z => ?_, ?_⟩
        · have := h2 b e
          rw [z, hbd9] at this
          cases this
        · rcases h1 with h | ⟨n, e, h⟩
          · exact .inl (h.at fun c o _ z _ => (sB.trans sC) c o z)
          · exact .inr ⟨n, e, by omega⟩
      · simp only [List.mem_cons, List.not_mem_nil, or_false] at hx
        rcases hx with rfl | rfl
        · exact ⟨fun b e => (nomatch e), .inr ⟨_, rfl, by omega⟩⟩
        · exact ⟨fun b e => (nomatch e), .inr ⟨_, rfl, by omega⟩⟩
    have hbdC := sAC _ _ hbd9
    have sHC := d9.trans sAC
    have nineC : ∀ v ∈ [V.non, .int 5, .str "12", .ref t1, .ref t2, .ref d, .ref l1, .ref l3, .ref l5], RowBad K (hid (upd (upd HA p2 (.lst [.int (g + 1), .int (g + far)])) all (.lst (xs ++ [V.int (g + 1), .int (g + far)]))) [bd]) m g v := fun v hv => (nine9 v hv).mono (hid_mono sAC)
    generalize upd (upd HA p2 (.lst [.int (g + 1), .int (g + far)])) all (.lst (xs ++ [V.int (g + 1), .int (g + far)])) = HC at hallC items hbdC sHC nineC
    have lX : (xs ++ [V.int (g + 1), .int (g + far)]).length = 11 := by rw [List.length_append, lx]; rfl
    generalize (xs ++ [V.int (g + 1), .int (g + far)]) = XS at hallC items lX
    refine ⟨all, rfl, ⟨_, SqL.of hallC⟩, for_list (K := K) (a := all) (xs := XS)
      (fun i σ H' => ∃ ws y4 y5, σ = [some (.int far), some (.int m), some (.int g), some (.ref bd), y4, y5] ∧ Same H H' ∧ H' bd = some (.lst ws) ∧ H' all = some (.lst XS) ∧ ws.length = 9 + i ∧ (∀ v ∈ ws, RowBad K (hid H' [bd]) m g v) ∧
        ∀ x ∈ XS, (∀ b, x = .ref b → b ≠ bd) ∧ (WhL K H' x false ∨ ∃ n : Int, x = .int n ∧ ¬ (0 ≤ n ∧ n ≤ g)))
      ⟨_, _, _, rfl, sHC, hbdC, hallC, rfl, nineC, items⟩ (fun i σ H' _ h => ?_) (fun i x σ H1 hx h => ?_) (fun σ H1 h => ?_)⟩
    · obtain ⟨_, _, _, _, _, _, h4, _⟩ := h
      exact SqL.of h4
    · obtain ⟨ws, y4, y5, rfl, s1, hb1, ha1, lw, bad, it⟩ := h
      have hi := (List.getElem?_eq_some_iff.mp hx).1
      refine ⟨(by show 2 ≤ sizeLine; decide), fun rw1 hrw => ?_⟩
      have nrb : rw1 ≠ bd := (ne_of_none hb1 hrw).symm
      have nra : rw1 ≠ all := (ne_of_none ha1 hrw).symm
      obtain ⟨k, ek, k0, k2⟩ : ∃ k : Int, far / 9 % 3 = k ∧ 0 ≤ k ∧ k ≤ 2 := ⟨_, rfl, by omega, by omega⟩
      have hr1 : (upd H1 rw1 (.lst [.int 2, .int 0])) rw1 = some (.lst [.int 2, .int 0]) := upd_same
      refine ⟨.ref rw1, rfl, .inl ⟨rfl, _, SqL.of hr1⟩, .int far, rfl, _, _, rfl, rfl, ⟨by decide, by decide⟩, _, _, rfl, rfl, (by show (0 : Int) < 3; decide), x, rfl, rw1, _, far / 9 % 3, x, rfl, rfl, hr1, (by show 2 < sizeLine; decide), by omega, by omega, ?_⟩
      rw [ek]
      obtain ⟨R, eR, lR, pR⟩ : ∃ R : List V, ([V.int 2, .int 0].take k.toNat ++ [x] ++ [V.int 2, .int 0].drop k.toNat) = R ∧ R.length = 3 ∧ ∃ bs : List Bool, bs.all id = false ∧ ∀ K H, ItemOk K H g x false → Paired (ItemOk K H g) R bs := by
        have t2 : ∀ K H, ItemOk K H g (.int 2) true := fun _ _ => .inr ⟨2, rfl, by rw [decide_eq_true (by omega)]⟩
        have t0 : ∀ K H, ItemOk K H g (.int 0) true := fun _ _ => .inr ⟨0, rfl, by rw [decide_eq_true (by omega)]⟩
        have : k = 0 ∨ k = 1 ∨ k = 2 := by omega
        rcases this with rfl | rfl | rfl
        · exact ⟨_, rfl, rfl, [false, true, true], rfl, fun K H h => .cons h (.cons (t2 K H) (.cons (t0 K H) .nil))⟩
        · exact ⟨_, rfl, rfl, [true, false, true], rfl, fun K H h => .cons (t2 K H) (.cons h (.cons (t0 K H) .nil))⟩
        · exact ⟨_, rfl, rfl, [true, true, false], rfl, fun K H h => .cons (t2 K H) (.cons (t0 K H) (.cons h .nil))⟩
      rw [eR]
      have e2 : upd (upd H1 rw1 (.lst [.int 2, .int 0])) rw1 (.lst R) = upd H1 rw1 (.lst R) := by
        funext b
        by_cases e : b = rw1
        · rw [e, upd_same, upd_same]
        · rw [upd_ne e, upd_ne e, upd_ne e]
      rw [e2]
      have s2 : Same H1 (upd H1 rw1 (.lst R)) := same_new hrw
      have hR : (upd H1 rw1 (.lst R)) rw1 = some (.lst R) := upd_same
      generalize upd H1 rw1 (.lst R) = H2 at s2 hR
      have hb2 := s2 _ _ hb1
      refine ⟨.ref bd, rfl, .inl ⟨rfl, _, SqL.of hb2⟩, .ref rw1, rfl, bd, ws, _, rfl, rfl, hb2, small1000 (by omega), ?_⟩
      obtain ⟨bs, hbs, pp⟩ := pR
      obtain ⟨nx, wx⟩ := it x (List.mem_of_getElem? hx)
      have hbdH2 : H bd = none := hbdH
      refine ⟨ws ++ [.ref rw1], _, _, rfl, same_upd2 (s1.trans s2) hbdH, upd_same, by rw [upd_ne nba]; exact s2 _ _ ha1, by rw [List.length_append, lw]; rfl, ?_, fun x2 hx2 => ?_⟩
      · rw [hid_upd (by simp)]
        intro v hv
        rcases List.mem_append.mp hv with hv | hv
        · exact (bad v hv).mono (hid_mono s2)
        · rw [List.mem_singleton.mp hv]
          refine .inr ⟨rw1, R, rfl, by rw [hid_out (by simp [nrb])]; exact hR, by omega, .inr ⟨by omega, by omega, bs, pp _ _ ?_, hbs⟩⟩
          rcases wx with h | ⟨n, e, h⟩
          · exact .inl ⟨rfl, ((h.at fun c o e z _ => by rw [hid_out (by simp [nx c e])]; exact s2 _ _ z) : WhL K (hid H2 [bd]) x false).wh⟩
          · exact .inr ⟨n, e, by rw [decide_eq_false h]⟩
      · obtain ⟨n2, w2⟩ := it x2 hx2
        refine ⟨n2, ?_⟩
        rcases w2 with h | h
        · exact .inl (h.at fun c o e z _ => by rw [upd_ne (n2 c e)]; exact s2 _ _ z)
        · exact .inr h
    · obtain ⟨ws, y4, y5, rfl, s1, hb1, ha1, lw, bad, it⟩ := h
      exact ⟨.ref bd, rfl, q H1 bd ws s1 hbdH hb1 fun v hv => (bad v hv).mono (hid_same _ _)⟩
end
end EG

/-! _law_kinds(lambda: ..). -/
namespace EG
open PySem PySem.Spec PyProof.Rows L2
section
variable {X : Cx}
theorem pe_kinds {T : List (Addr × Str)} {g CB CE CG c P : Addr} {fd : FuncData} {k : Nat} {params : Arguments} {body : Expr} {scope : Scope} {t : XK → TE} {p lpos pos : Pos} (F : Fun X.K "_law_kinds" "_law_kinds" s_l_kinds g fd) (gk : X.mg "_law_kinds" = some (.ref g))
    (kk : PySem.W.keepIn X.K (.ref g) = true) (bk : Binds X.K fd ["_law_ask"] []) (hB : X.mg "BadRow" = some (.ref CB)) (hE : X.mg "BadEvening" = some (.ref CE)) (hG : X.mg "GlassError" = some (.ref CG)) (hV : X.mg "ValueError" = none) (hI : X.mg "isinstance" = none)
    (D : KdF X.K CB CE CG) (hg : Gl X "_law_kinds") (TB : LamX.TabB X.base X.mg c P) (hcode : X.env.code = .ref c) (hmT : (P, X.env.qual ++ "<lambda>") ∈ T) (hu : ∀ p ∈ T, p.1 = P → p.2 = X.env.qual ++ "<lambda>") (hr : Room (k + 2) X.A)
    (L : LamX.LamS X.env.scope scope) (hdef : defaultsOf params X.env = ([], [])) (hbind : ∀ (q : Str) (cl : List (Str × Addr)) (pm cv ctv : Value), bindArgs (PySem.W.kla_fn "<lambda>" q params body scope cl pm cv ctv) ⟨[], []⟩ = pure [])
    (hbody : ∀ (A : Around) (outer : List Env) (s : Shared) (H : Hp) (E : XK) (f c' : Addr), Room k (A.deeper (LamX.lamEnv X scope s.heap.objs.size f c')) → PE (LamX.lamCx X A outer s H E scope f c') body (t E)) :
    PE X (.Call (.Name "_law_kinds" p) [.Lambda params body scope lpos] [] pos) (LamX.tLam T (TKinds CB CE) t) := by
  obtain ⟨oc, od, kV, doc, pm, an, cdv, ct, osl, rfl, lk, hcd⟩ := F.ex
  exact LamX.pe_lamcall hg gk kk lk hcd bk sc_l_kinds rfl (.inl rfl) (kinds_gives hB hE hG hV hI D) TB hcode hmT hu hr L hdef hbind hbody
end
/-- a refusal asked for, compared with what is due: the call refuses by C -/
def tKN (T : List (Addr × Str)) (t : XK → TE) (C : Addr) : TT := fun σ H N => LamX.Tabs T H ∧ (∀ H2, LamX.ExtN H H2 → ∀ (E : XK) (Q' : VK), (∀ H3, Same H2 H3 → E (.ref C) none H3) → t E σ H2 Q') ∧ ∀ H5, LamX.ExtN H H5 → LamX.Tabs T H5 → N false H5
def tKE (T : List (Addr × Str)) (t : XK → TE) (C : Addr) : TE := fun σ H Q => LamX.Tabs T H ∧ (∀ H2, LamX.ExtN H H2 → ∀ (E : XK) (Q' : VK), (∀ H3, Same H2 H3 → E (.ref C) none H3) → t E σ H2 Q') ∧ ∀ H5, LamX.ExtN H H5 → LamX.Tabs T H5 → Q (.bl true) H5
theorem kinds_go {T : List (Addr × Str)} {CB CE C : Addr} {b1 b2 : Bool} (hC : (C = CB ∧ b1 = true ∧ b2 = false) ∨ (C = CE ∧ b1 = false ∧ b2 = true)) {t : XK → TE} {σ : L2.St} {H : Hp} {Q : VK} (hT : LamX.Tabs T H)
    (ht : ∀ H2, LamX.ExtN H H2 → ∀ (E : XK) (Q' : VK), (∀ H3, Same H2 H3 → E (.ref C) none H3) → t E σ H2 Q') (q : ∀ H4 l, LamX.ExtN H H4 → LamX.Tabs T H4 → H4 l = some (.lst [.bl b1, .bl b2, .bl true]) → Q (.ref l) H4) : LamX.tLam T (TKinds CB CE) t σ H Q := by
  refine ⟨hT, fun H1 e1 t1 => fun fo hfo Q' => ?_⟩
  have s1 := same_new (o := .lst []) hfo
  refine ht _ (e1.trans (.of s1)) _ _ fun H3 s3 => ⟨rfl, ?_⟩
  have go : ∀ l, H3 l = none → Q (.ref l) (upd H3 l (.lst [.bl b1, .bl b2, .bl true])) := fun l hl => by
    have s4 := same_new (o := .lst [.bl b1, .bl b2, .bl true]) hl
    exact q _ l (e1.trans (.of ((s1.trans s3).trans s4))) (t1.ext ((s1.trans s3).trans s4)) upd_same
  rcases hC with ⟨rfl, rfl, rfl⟩ | ⟨rfl, rfl, rfl⟩
  · exact .inl ⟨rfl, go⟩
  · exact .inr ⟨rfl, go⟩
theorem dp_bl3 {K : PySem.W.Frag} {H : Hp} {l : Addr} {b1 b2 b3 : Bool} (h : H l = some (.lst [.bl b1, .bl b2, .bl b3])) : Dp K H (.ref l) (.list [.bool b1, .bool b2, .bool b3]) := .lst (SqL.of h) (.cons (.bl _) (.cons (.bl _) (.cons (.bl _) .nil)))
theorem bl3_eq (b1 b2 b3 : Bool) : PyData.eqv (.list [.bool b1, .bool b2, .bool b3]) (.list [.bool b1, .bool b2, .bool b3]) = true := by simp [PyData.eqv, PyData.eqvAll]
section
variable {X : Cx}
theorem pt_kinds {T : List (Addr × Str)} {CB CE C : Addr} {b1 b2 : Bool} {t : XK → TE} {ek el : Expr} {pos : Pos} (hC : (C = CB ∧ b1 = true ∧ b2 = false) ∨ (C = CE ∧ b1 = false ∧ b2 = true)) (hu : X.A.units + 64 < cLine) (hk : PE X ek (LamX.tLam T (TKinds CB CE) t))
    (hl : PE X el (tLst (tCons (tC (.bl b1)) (tCons (tC (.bl b2)) (tCons (tC (.bl true)) tNil))))) (hm : behindInMarks .NotEq el = false) : PT X (.Compare ek [.NotEq] [el] pos) (tKN T t C) := by
  refine ⟨fun pins s σ H N I h => (pt_cmpR (r := rNeD X.K) (op_neD hu) hk hl hm).run pins s σ H N I ?_⟩
  obtain ⟨hT, ht, q⟩ := h
  refine kinds_go hC hT ht fun H4 l e4 t4 hl4 => ⟨(by show 3 ≤ sizeLine; decide), fun p hp => ?_⟩
  have s5 := same_new (o := .lst [.bl b1, .bl b2, .bl true]) hp
  refine ⟨_, _, dp_bl3 (s5 _ _ hl4), dp_bl3 upd_same, rfl, rfl, false, ?_, q _ (e4.trans (.of s5)) (t4.ext s5)⟩
  rw [bl3_eq]
  rfl
theorem pe_kindsE {T : List (Addr × Str)} {CB CE C : Addr} {b1 b2 : Bool} {t : XK → TE} {ek el : Expr} {pos : Pos} (hC : (C = CB ∧ b1 = true ∧ b2 = false) ∨ (C = CE ∧ b1 = false ∧ b2 = true)) (hu : X.A.units + 64 < cLine) (hk : PE X ek (LamX.tLam T (TKinds CB CE) t))
    (hl : PE X el (tLst (tCons (tC (.bl b1)) (tCons (tC (.bl b2)) (tCons (tC (.bl true)) tNil))))) (hm : behindInMarks .Eq el = false) : PE X (.Compare ek [.Eq] [el] pos) (tKE T t C) := by
  refine ⟨fun pins s σ H Q I h => (pe_cmpR (r := rEqD X.K) (op_eqD hu) hk hl hm).run pins s σ H Q I ?_⟩
  obtain ⟨hT, ht, q⟩ := h
  refine kinds_go hC hT ht fun H4 l e4 t4 hl4 => ⟨(by show 3 ≤ sizeLine; decide), fun p hp => ?_⟩
  have s5 := same_new (o := .lst [.bl b1, .bl b2, .bl true]) hp
  refine ⟨_, _, dp_bl3 (s5 _ _ hl4), dp_bl3 upd_same, rfl, rfl, ?_⟩
  rw [bl3_eq]
  exact q _ (e4.trans (.of s5)) (t4.ext s5)
end
/-- a def whose code object is known -/
theorem ok_code {P : Program} {w : World} {K : PySem.W.Frag} {mg : Str → Option Value} {base : Heap} {x qual : Str} {st : Stmt} {f c : Addr} {fd : FuncData} {N ps : List Str} {k : Nat} {sp : Sp} (F : Fun K x qual st f fd) (hc : fd.code = .ref c) (S : FnScope N ps (defScope st)) (len : ∀ vs H Q E, sp vs H Q E → vs.length = ps.length)
    (go : ∀ (A : Around) (outer : List Env) (s : Shared) (H : Hp) (vs : List V) (Q : VK) (E : XK), Room k (A.deeper (envOfC qual (defScope st) s.heap.objs.size f (.ref c))) → sp vs H Q E →
      ∃ t, PSs (cxOf CX0 P w K mg base N qual (defScope st) f (.ref c) A outer s H E).nox (defBody st) t ∧ t { nx := fun _ H' => Q .non H', rt := Q } (start N vs) H) : FnOk P w K mg base CX0 (k + 1) f fd ps sp := by
  obtain ⟨_, _, _, _, _, _, cv, _, _, ef, l, h⟩ := F.ex
  subst ef
  have e : cv = .ref c := hc
  subst e
  refine fn_of l h S len fun A o s H vs Q E hr hp => ?_
  have ⟨t, z, q⟩ := go A o s H vs Q E hr hp
  exact ⟨t, z.nox, q⟩
end EG

/-! _law_right. -/
namespace EG
open PySem PySem.Spec PyProof.Rows L2
abbrev lamQ (x : Str) : Str := (x ++ ".<locals>.") ++ "<lambda>"
theorem PairBad.ext {K : PySem.W.Frag} {H H1 : Hp} {ns : List Int} {v : V} (s : LamX.ExtN H H1) (h : PairBad K H ns v) : PairBad K H1 ns v := by
  rcases h with h | ⟨e, xs, ev, he, h | ⟨h2, bs, hp, hb⟩ | h⟩
  · exact .inl (h.ext s)
  · exact .inr ⟨e, xs, ev, s _ _ he (fun _ z => nomatch z), .inl h⟩
  · exact .inr ⟨e, xs, ev, s _ _ he (fun _ z => nomatch z), .inr (.inl ⟨h2, bs, Paired.mapP hp fun _ _ q => q.ext s, hb⟩)⟩
  · exact .inr ⟨e, xs, ev, s _ _ he (fun _ z => nomatch z), .inr (.inr h)⟩
theorem PairBad.mono {K : PySem.W.Frag} {H H1 : Hp} {ns : List Int} {v : V} (s : Same H H1) (h : PairBad K H ns v) : PairBad K H1 ns v := h.ext (.of s)
theorem evs1251 : evs [1, 2, 5, 1] = [(0, 2), (2, 3)] := by decide
theorem not1251 {p : Pr} (h : ¬ (p.1 = 0 ∧ p.2 = 2 ∨ p.1 = 2 ∧ p.2 = 3)) : p ∉ evs [1, 2, 5, 1] := by
  rw [evs1251]
  intro z
  simp only [List.mem_cons, List.not_mem_nil, or_false] at z
  rcases z with rfl | rfl
  · exact h (.inl ⟨rfl, rfl⟩)
  · exact h (.inr ⟨rfl, rfl⟩)
theorem bad_pair {K : PySem.W.Frag} {H : Hp} {e : Addr} {p : Pr} (h : H e = some (.tup [.int p.1, .int p.2])) (n : ¬ (p.1 = 0 ∧ p.2 = 2 ∨ p.1 = 2 ∧ p.2 = 3)) : PairBad K H [1, 2, 5, 1] (.ref e) := .inr ⟨e, _, rfl, h, .inr (.inr ⟨p, rfl, not1251 n⟩)⟩
theorem bad_tl {K : PySem.W.Frag} {H : Hp} {e : Addr} {xs : List V} {ns : List Int} (h : H e = some (.tup xs)) (l : xs.length ≠ 2 ∧ xs.length ≤ 900) : PairBad K H ns (.ref e) := .inr ⟨e, _, rfl, h, .inl l⟩
theorem bad_odd1 {K : PySem.W.Frag} {H : Hp} {e : Addr} {x : V} (h : H e = some (.tup [x, .int 2])) (o : Odd K H x) : PairBad K H [1, 2, 5, 1] (.ref e) := by
  rcases o with o | ⟨n, rfl, o⟩
  · exact .inr ⟨e, _, rfl, h, .inr (.inl ⟨rfl, [false, true], .cons o.wh (.cons (Wh.int 2) .nil), rfl⟩)⟩
  · exact bad_pair (p := (n, 2)) h (by show ¬ (n = 0 ∧ (2 : Int) = 2 ∨ n = 2 ∧ (2 : Int) = 3); omega)
theorem bad_odd2 {K : PySem.W.Frag} {H : Hp} {e : Addr} {x : V} (h : H e = some (.tup [.int 0, x])) (o : Odd K H x) : PairBad K H [1, 2, 5, 1] (.ref e) := by
  rcases o with o | ⟨n, rfl, o⟩
  · exact .inr ⟨e, _, rfl, h, .inr (.inl ⟨rfl, [true, false], .cons (Wh.int 0) (.cons o.wh .nil), rfl⟩)⟩
  · exact bad_pair (p := (0, n)) h (by show ¬ ((0 : Int) = 0 ∧ n = 2 ∨ (0 : Int) = 2 ∧ n = 3); omega)
section
variable {P : Program} {w : World} {K : PySem.W.Frag} {mg : Str → Option Value} {base : Heap}
/-- the doors of a row alone -/
def S1 (K : PySem.W.Frag) (CB fe fs fa fn fm : Addr) : Addr → Sp → Prop := fun f sp => (f = fe ∧ sp = sp_badX K CB 12 1000000) ∨ (f = fs ∧ sp = sp_settledX K CB) ∨ (f = fa ∧ sp = sp_badX K CB 5 20) ∨ (f = fn ∧ sp = sp_endsX K CB) ∨ (f = fm ∧ sp = sp_badX K CB 5 20)
def S2 (K : PySem.W.Frag) (CB CE fv ff : Addr) : Addr → Sp → Prop := fun f sp => (f = fv ∧ sp = sp_evenedX K CB CE) ∨ (f = ff ∧ sp = sp_fallX K CB CE)
def sp_right (T : List (Addr × Str)) : Sp := fun vs H Q _ => ∃ far : Int, vs = [.int far] ∧ 1 ≤ far ∧ LamX.Tabs T H ∧ ∀ H', LamX.ExtN H H' → LamX.Tabs T H' → Q (.bl true) H'
abbrev N_l_right : List Str := ["_law_far", "_law_bad", "_law_ask", "_law_pairs", "_law_strange_here", "_law_pair"]
theorem ok_right {f f_evenings f_settled f_evened f_fall f_alike f_ends f_fewest_most g c Pt CB CE CG : Addr} {fd fk : FuncData} {T : List (Addr × Str)} (F : Fun K "_law_right" "_law_right" s_l_right f fd) (hc : fd.code = .ref c) (B : Blt mg) (TB : LamX.TabB base mg c Pt)
    (hm : (Pt, lamQ "_law_right") ∈ T) (hu : ∀ p ∈ T, p.1 = Pt → p.2 = lamQ "_law_right") (hB : mg "BadRow" = some (.ref CB)) (hE : mg "BadEvening" = some (.ref CE)) (hG : mg "GlassError" = some (.ref CG)) (hV : mg "ValueError" = none)
    (D : KdF K CB CE CG) (Fk : Fun K "_law_kinds" "_law_kinds" s_l_kinds g fk) (gk : mg "_law_kinds" = some (.ref g)) (bk : Binds K fk ["_law_ask"] [])
    (g_evenings : mg "evenings" = some (.ref f_evenings)) (g_settled : mg "settled" = some (.ref f_settled)) (g_evened : mg "evened" = some (.ref f_evened)) (g_fall : mg "fall" = some (.ref f_fall)) (g_alike : mg "alike" = some (.ref f_alike)) (g_ends : mg "ends" = some (.ref f_ends)) (g_fewest_most : mg "fewest_most" = some (.ref f_fewest_most))
    (A1 : ∀ f sp, S1 K CB f_evenings f_settled f_alike f_ends f_fewest_most f sp → HeldX P w K mg base 4 f sp) (A2 : ∀ f sp, S2 K CB CE f_evened f_fall f sp → HeldX P w K mg base 4 f sp)
    (c_l_no_rows : Cal CX0 P w K mg base "_law_no_rows" ["_law_far", "_law_most", "_law_greatest"] 2 (sp_no_rows K)) (c_l_strange : Cal CX0 P w K mg base "_law_strange" ["_law_far"] 1 (sp_strange K)) :
    FnOk P w K mg base CX0 7 f fd ["_law_far"] (sp_right T) := by
  refine ok_code F hc sc_l_right (fun vs H Q E h => ?_) (fun A outer s H vs Q E hr h => ?_)
  · obtain ⟨far, rfl, _⟩ := h
    rfl
  · obtain ⟨far, rfl, h1, tabs, q⟩ := h
    refine ⟨_, (pss_cons (ps_for PassesOwn.never rfl (pi_list (pe_cal c_l_no_rows hr (by rfl) (pa_cons (pv 0) (pa_cons pe_int (pa_cons pe_int pa_nil))))) (pg_name (i := 1) sc_l_right.nd rfl (.inr rfl))
    (pss_cons (ps_for PassesOwn.never rfl (pi_tup (pe_tup (pa_cons (pe_glob (v := .ref f_evenings) (by rfl) g_evenings rfl) (pa_cons (pe_glob (v := .ref f_settled) (by rfl) g_settled rfl) pa_nil)))) (pg_name (i := 2) sc_l_right.nd rfl (.inr rfl))
      (pss_one (ps_if (pt_kinds (b1 := true) (b2 := false) (.inl ⟨rfl, rfl, rfl⟩) hr.units (pe_kinds (T := T) (k := 4) (t := fun E => tCallAX 2 (S1 K CB f_evenings f_settled f_alike f_ends f_fewest_most) E (tCons (tVar 1) tNil)) Fk gk Fk.kp bk hB hE hG hV B.isi D (by rfl) TB rfl hm hu hr (LamX.lamS_by (by show LamX.lamSB (defScope s_l_right) _ = true; decide +kernel)) rfl (fun _ _ _ _ _ => rfl) (fun A outer s H E f c2 hr2 => pe_callAX (i := 2) A1 hr2 (passes_call (takes_of rfl rfl rfl rfl) (fun _ _ _ _ h => h)) rfl (.inr (.inr rfl)) (pa_cons (pv 1) pa_nil))) (pe_lst (pa_cons pe_bl (pa_cons pe_bl (pa_cons pe_bl pa_nil)))) (nomark _))
        (pss_one (ps_ret pe_bl))
        pss_nil)))
      (pss_one (ps_for PassesOwn.never rfl (pi_tup (pe_tup (pa_cons (pe_glob (v := .ref f_evened) (by rfl) g_evened rfl) (pa_cons (pe_glob (v := .ref f_fall) (by rfl) g_fall rfl) pa_nil)))) (pg_name (i := 2) sc_l_right.nd rfl (.inr rfl))
      (pss_one (ps_if (pt_kinds (b1 := true) (b2 := false) (.inl ⟨rfl, rfl, rfl⟩) hr.units (pe_kinds (T := T) (k := 4) (t := fun E => tCallAX 2 (S2 K CB CE f_evened f_fall) E (tCons (tVar 1) (tCons (tC .non) tNil))) Fk gk Fk.kp bk hB hE hG hV B.isi D (by rfl) TB rfl hm hu hr (LamX.lamS_by (by show LamX.lamSB (defScope s_l_right) _ = true; decide +kernel)) rfl (fun _ _ _ _ _ => rfl) (fun A outer s H E f c2 hr2 => pe_callAX (i := 2) A2 hr2 (passes_call (takes_of rfl rfl rfl rfl) (fun _ _ _ _ h => h)) rfl (.inr (.inr rfl)) (pa_cons (pv 1) (pa_cons pe_non pa_nil)))) (pe_lst (pa_cons pe_bl (pa_cons pe_bl (pa_cons pe_bl pa_nil)))) (nomark _))
        (pss_one (ps_ret pe_bl))
        pss_nil))))))
    (pss_cons (ps_for PassesOwn.never rfl (pi_list (pe_cal c_l_no_rows hr (by rfl) (pa_cons (pv 0) (pa_cons pe_int (pa_cons pe_int pa_nil))))) (pg_name (i := 1) sc_l_right.nd rfl (.inr rfl))
    (pss_one (ps_for PassesOwn.never rfl (pi_tup (pe_tup (pa_cons (pe_glob (v := .ref f_alike) (by rfl) g_alike rfl) (pa_cons (pe_glob (v := .ref f_ends) (by rfl) g_ends rfl) (pa_cons (pe_glob (v := .ref f_fewest_most) (by rfl) g_fewest_most rfl) pa_nil))))) (pg_name (i := 2) sc_l_right.nd rfl (.inr rfl))
      (pss_one (ps_if (pt_kinds (b1 := true) (b2 := false) (.inl ⟨rfl, rfl, rfl⟩) hr.units (pe_kinds (T := T) (k := 4) (t := fun E => tCallAX 2 (S1 K CB f_evenings f_settled f_alike f_ends f_fewest_most) E (tCons (tVar 1) tNil)) Fk gk Fk.kp bk hB hE hG hV B.isi D (by rfl) TB rfl hm hu hr (LamX.lamS_by (by show LamX.lamSB (defScope s_l_right) _ = true; decide +kernel)) rfl (fun _ _ _ _ _ => rfl) (fun A outer s H E f c2 hr2 => pe_callAX (i := 2) A1 hr2 (passes_call (takes_of rfl rfl rfl rfl) (fun _ _ _ _ h => h)) rfl (.inr (.inr rfl)) (pa_cons (pv 1) pa_nil))) (pe_lst (pa_cons pe_bl (pa_cons pe_bl (pa_cons pe_bl pa_nil)))) (nomark _))
        (pss_one (ps_ret pe_bl))
        pss_nil)))))
    (pss_cons (ps_set (i := 3) sc_l_right.nd rfl (.inl rfl) (pe_lst (pa_cons pe_non (pa_cons pe_int (pa_cons pe_str (pa_cons (pe_tup pa_nil) (pa_cons (pe_tup (pa_cons pe_int pa_nil)) (pa_cons (pe_tup (pa_cons pe_int (pa_cons pe_int (pa_cons pe_int pa_nil)))) (pa_cons (pe_lst (pa_cons pe_int (pa_cons pe_int pa_nil))) (pa_cons pe_dnewT (pa_cons (pe_tup (pa_cons pe_int (pa_cons pe_int pa_nil))) (pa_cons (pe_tup (pa_cons pe_int (pa_cons pe_int pa_nil))) (pa_cons (pe_tup (pa_cons pe_int (pa_cons pe_int pa_nil))) pa_nil)))))))))))))
    (pss_cons (ps_set (i := 3) sc_l_right.nd rfl (.inl rfl) (pe_op op_cat (pv 3) (pe_lst (pa_cons (pe_tup (pa_cons pe_int (pa_cons pe_int pa_nil))) (pa_cons (pe_tup (pa_cons pe_int (pa_cons pe_int pa_nil))) (pa_cons (pe_tup (pa_cons (pe_un un_neg pe_int) (pa_cons pe_int pa_nil))) (pa_cons (pe_tup (pa_cons pe_int (pa_cons (pe_op op_add pe_int (pv 0)) pa_nil))) pa_nil)))))))
    (pss_cons (ps_for PassesOwn.never rfl (pi_list (pe_cal c_l_strange hr (by rfl) (pa_cons (pv 0) pa_nil))) (pg_name (i := 4) sc_l_right.nd rfl (.inl rfl))
    (pss_one (ps_set (i := 3) sc_l_right.nd rfl (.inl rfl) (pe_op op_cat (pv 3) (pe_lst (pa_cons (pe_tup (pa_cons (pv 4) (pa_cons pe_int pa_nil))) (pa_cons (pe_tup (pa_cons pe_int (pa_cons (pv 4) pa_nil))) pa_nil)))))))
    (pss_cons (ps_for PassesOwn.never rfl (pi_list (pv 3)) (pg_name (i := 5) sc_l_right.nd rfl (.inr rfl))
    (pss_one (ps_for PassesOwn.never rfl (pi_tup (pe_tup (pa_cons (pe_glob (v := .ref f_evened) (by rfl) g_evened rfl) (pa_cons (pe_glob (v := .ref f_fall) (by rfl) g_fall rfl) pa_nil)))) (pg_name (i := 2) sc_l_right.nd rfl (.inr rfl))
      (pss_one (ps_if (pt_kinds (b1 := false) (b2 := true) (.inr ⟨rfl, rfl, rfl⟩) hr.units (pe_kinds (T := T) (k := 4) (t := fun E => tCallAX 2 (S2 K CB CE f_evened f_fall) E (tCons (tLst (tCons (tC (.int 1)) (tCons (tC (.int 2)) (tCons (tC (.int 5)) (tCons (tC (.int 1)) tNil))))) (tCons (tVar 5) tNil))) Fk gk Fk.kp bk hB hE hG hV B.isi D (by rfl) TB rfl hm hu hr (LamX.lamS_by (by show LamX.lamSB (defScope s_l_right) _ = true; decide +kernel)) rfl (fun _ _ _ _ _ => rfl) (fun A outer s H E f c2 hr2 => pe_callAX (i := 2) A2 hr2 (passes_call (takes_of rfl rfl rfl rfl) (fun _ _ _ _ h => h)) rfl (.inr (.inr rfl)) (pa_cons (pe_lst (pa_cons pe_int (pa_cons pe_int (pa_cons pe_int (pa_cons pe_int pa_nil))))) (pa_cons (pv 5) pa_nil)))) (pe_lst (pa_cons pe_bl (pa_cons pe_bl (pa_cons pe_bl pa_nil)))) (nomark _))
        (pss_one (ps_ret pe_bl))
        pss_nil)))))
    (pss_one (ps_ret pe_bl)))))))), ?_⟩
    -- rows, at the doors of all
    refine ⟨.int far, rfl, far, 12, 1000000, rfl, h1, by decide, by decide, by decide, fun Ha p ws sa hp hws bad => ?_⟩
    refine ⟨p, rfl, ⟨_, SqL.of hws⟩, for_list (K := K) (a := p) (xs := ws)
      (fun _ σ H' => ∃ x1 x2, σ = [some (.int far), x1, x2, none, none, none] ∧ LamX.ExtN Ha H' ∧ LamX.Tabs T H')
      ⟨_, _, rfl, LamX.ExtN.refl _, tabs.ext sa⟩ (fun i σ H' _ h => ?_) (fun i x σ Hb hx h => ?_) (fun σ Hb h => ?_)⟩
    · obtain ⟨_, _, _, e, _⟩ := h
      exact SqL.of (e _ _ hws (fun _ z => nomatch z))
    · obtain ⟨x1, x2, rfl, eb, tb⟩ := h
      have bx := (bad x (List.mem_of_getElem? hx)).ext eb
      refine ⟨(by show 2 ≤ sizeLine; decide), fun t ht => ?_⟩
      have sc := same_new (o := .tup [.ref f_evenings, .ref f_settled]) ht
      have htt : (upd Hb t (.tup [.ref f_evenings, .ref f_settled])) t = some (.tup [.ref f_evenings, .ref f_settled]) := upd_same
      generalize upd Hb t (.tup [.ref f_evenings, .ref f_settled]) = Hc at sc htt
      refine ⟨t, rfl, ⟨_, SqT.of htt⟩, for_tup (K := K) (a := t) (xs := [.ref f_evenings, .ref f_settled])
        (fun _ σ H' => ∃ x2, σ = [some (.int far), some x, x2, none, none, none] ∧ LamX.ExtN Hc H' ∧ LamX.Tabs T H')
        ⟨_, rfl, LamX.ExtN.refl _, tb.ext sc⟩ (fun i σ H' _ h => ?_) (fun i y σ Hd hy h => ?_) (fun σ Hd h => ?_)⟩
      · obtain ⟨_, _, e, _⟩ := h
        exact SqT.of (e _ _ htt (fun _ z => nomatch z))
      · obtain ⟨x2, rfl, ed, td⟩ := h
        refine ⟨td, fun H2 e2 E2 Q2 hE2 => ?_, fun H5 e5 t5 => iteF ⟨_, rfl, ed.trans e5, t5⟩⟩
        have b2 := ((bx.mono sc).ext ed).ext e2
        have hy' := List.mem_of_getElem? hy
        simp only [List.mem_cons, List.not_mem_nil, or_false] at hy'
        rcases hy' with rfl | rfl
        · exact ⟨_, _, rfl, .inl ⟨rfl, rfl⟩, x, rfl, x, rfl, b2, hE2⟩
        · exact ⟨_, _, rfl, .inr (.inl ⟨rfl, rfl⟩), x, rfl, .inr ⟨x, rfl, b2, hE2⟩⟩
      · obtain ⟨x2, rfl, ed, td⟩ := h
        have e1 := (eb.trans (.of sc)).trans ed
        refine ⟨(by show 2 ≤ sizeLine; decide), fun t2 ht2 => ?_⟩
        have se := same_new (o := .tup [.ref f_evened, .ref f_fall]) ht2
        have htt2 : (upd Hd t2 (.tup [.ref f_evened, .ref f_fall])) t2 = some (.tup [.ref f_evened, .ref f_fall]) := upd_same
        have bx2 := ((bx.mono sc).ext ed).mono se
        generalize upd Hd t2 (.tup [.ref f_evened, .ref f_fall]) = He at se htt2 bx2
        refine ⟨t2, rfl, ⟨_, SqT.of htt2⟩, for_tup (K := K) (a := t2) (xs := [.ref f_evened, .ref f_fall])
          (fun _ σ H' => ∃ x2, σ = [some (.int far), some x, x2, none, none, none] ∧ LamX.ExtN He H' ∧ LamX.Tabs T H')
          ⟨_, rfl, LamX.ExtN.refl _, td.ext se⟩ (fun i σ H' _ h => ?_) (fun i y σ Hf hy h => ?_) (fun σ Hf h => ?_)⟩
        · obtain ⟨_, _, e, _⟩ := h
          exact SqT.of (e _ _ htt2 (fun _ z => nomatch z))
        · obtain ⟨x2, rfl, ef, tf⟩ := h
          refine ⟨tf, fun H2 e2 E2 Q2 hE2 => ?_, fun H5 e5 t5 => iteF ⟨_, rfl, ef.trans e5, t5⟩⟩
          have b2 := (bx2.ext ef).ext e2
          have hy' := List.mem_of_getElem? hy
          simp only [List.mem_cons, List.not_mem_nil, or_false] at hy'
          rcases hy' with rfl | rfl
          · exact ⟨_, _, rfl, .inl ⟨rfl, rfl⟩, x, rfl, .inr ⟨x, .non, rfl, .inl ⟨b2, hE2⟩⟩⟩
          · exact ⟨_, _, rfl, .inr ⟨rfl, rfl⟩, x, rfl, .inr ⟨x, .non, rfl, .inl ⟨b2, hE2⟩⟩⟩
        · obtain ⟨x2, rfl, ef, tf⟩ := h
          exact ⟨_, _, rfl, (e1.trans (.of se)).trans ef, tf⟩
    -- rows, at the doors of few
    obtain ⟨x1, x2, rfl, eb, tb⟩ := h
    have eHb : LamX.ExtN H Hb := (LamX.ExtN.of sa).trans eb
    clear bad hws hp eb
    refine ⟨.int far, rfl, far, 5, 20, rfl, h1, by decide, by decide, by decide, fun Hc p ws sc hp hws bad => ?_⟩
    refine ⟨p, rfl, ⟨_, SqL.of hws⟩, for_list (K := K) (a := p) (xs := ws)
      (fun _ σ H' => ∃ x1 x2, σ = [some (.int far), x1, x2, none, none, none] ∧ LamX.ExtN Hc H' ∧ LamX.Tabs T H')
      ⟨_, _, rfl, LamX.ExtN.refl _, tb.ext sc⟩ (fun i σ H' _ h => ?_) (fun i x σ Hd hx h => ?_) (fun σ Hd h => ?_)⟩
    · obtain ⟨_, _, _, e, _⟩ := h
      exact SqL.of (e _ _ hws (fun _ z => nomatch z))
    · obtain ⟨x1, x2, rfl, ed, td⟩ := h
      have bx := (bad x (List.mem_of_getElem? hx)).ext ed
      refine ⟨(by show 3 ≤ sizeLine; decide), fun t ht => ?_⟩
      have se := same_new (o := .tup [.ref f_alike, .ref f_ends, .ref f_fewest_most]) ht
      have htt : (upd Hd t (.tup [.ref f_alike, .ref f_ends, .ref f_fewest_most])) t = some (.tup [.ref f_alike, .ref f_ends, .ref f_fewest_most]) := upd_same
      generalize upd Hd t (.tup [.ref f_alike, .ref f_ends, .ref f_fewest_most]) = He at se htt
      refine ⟨t, rfl, ⟨_, SqT.of htt⟩, for_tup (K := K) (a := t) (xs := [.ref f_alike, .ref f_ends, .ref f_fewest_most])
        (fun _ σ H' => ∃ x2, σ = [some (.int far), some x, x2, none, none, none] ∧ LamX.ExtN He H' ∧ LamX.Tabs T H')
        ⟨_, rfl, LamX.ExtN.refl _, td.ext se⟩ (fun i σ H' _ h => ?_) (fun i y σ Hf hy h => ?_) (fun σ Hf h => ?_)⟩
      · obtain ⟨_, _, e, _⟩ := h
        exact SqT.of (e _ _ htt (fun _ z => nomatch z))
      · obtain ⟨x2, rfl, ef, tf⟩ := h
        refine ⟨tf, fun H2 e2 E2 Q2 hE2 => ?_, fun H5 e5 t5 => iteF ⟨_, rfl, ef.trans e5, t5⟩⟩
        have b2 := ((bx.mono se).ext ef).ext e2
        have hy' := List.mem_of_getElem? hy
        simp only [List.mem_cons, List.not_mem_nil, or_false] at hy'
        rcases hy' with rfl | rfl | rfl
        · exact ⟨_, _, rfl, .inr (.inr (.inl ⟨rfl, rfl⟩)), x, rfl, x, rfl, b2, hE2⟩
        · exact ⟨_, _, rfl, .inr (.inr (.inr (.inl ⟨rfl, rfl⟩))), x, rfl, .inr ⟨x, rfl, b2, hE2⟩⟩
        · exact ⟨_, _, rfl, .inr (.inr (.inr (.inr ⟨rfl, rfl⟩))), x, rfl, x, rfl, b2, hE2⟩
      · obtain ⟨x2, rfl, ef, tf⟩ := h
        exact ⟨_, _, rfl, (ed.trans (.of se)).trans ef, tf⟩
    obtain ⟨x1, x2, rfl, ed, td⟩ := h
    have eH : LamX.ExtN H Hd := (eHb.trans (.of sc)).trans ed
    clear bad hws hp ed eHb tb
    -- pairs
    refine ⟨Nat.zero_le _, fun a0 h0 => ⟨(by show 1 ≤ sizeLine; decide), fun a1 ha1 => ⟨(by show 3 ≤ sizeLine; decide), fun a2 h2 => ⟨(by show 2 ≤ sizeLine; decide), fun l0 hl0 => fun d hd => ⟨(by show 2 ≤ sizeLine; decide), fun a3 h3 => ⟨(by show 2 ≤ sizeLine; decide), fun a4 h4 => ⟨(by show 2 ≤ sizeLine; decide), fun a5 h5 => ⟨(by show 11 ≤ sizeLine; decide), fun L0 hL0 => ?_⟩⟩⟩⟩⟩⟩⟩⟩
    have c0 := same_new (o := .tup []) h0
    have e0 : (upd Hd a0 (.tup [])) a0 = some (.tup []) := upd_same
    generalize upd Hd a0 (.tup []) = G0 at c0 e0 ha1 h2 hl0 hd h3 h4 h5 hL0 ⊢
    have c1 := same_new (o := .tup [.int 0]) ha1
    have e1 : (upd G0 a1 (.tup [.int 0])) a1 = some (.tup [.int 0]) := upd_same
    generalize upd G0 a1 (.tup [.int 0]) = G1 at c1 e1 h2 hl0 hd h3 h4 h5 hL0 ⊢
    have c2 := same_new (o := .tup [.int 0, .int 2, .int 2]) h2
    have e2 : (upd G1 a2 (.tup [.int 0, .int 2, .int 2])) a2 = some (.tup [.int 0, .int 2, .int 2]) := upd_same
    generalize upd G1 a2 (.tup [.int 0, .int 2, .int 2]) = G2 at c2 e2 hl0 hd h3 h4 h5 hL0 ⊢
    have c3 := same_new (o := .lst [.int 0, .int 2]) hl0
    have e3 : (upd G2 l0 (.lst [.int 0, .int 2])) l0 = some (.lst [.int 0, .int 2]) := upd_same
    generalize upd G2 l0 (.lst [.int 0, .int 2]) = G3 at c3 e3 hd h3 h4 h5 hL0 ⊢
    have c4 := same_new (o := .dT []) hd
    have e4 : (upd G3 d (.dT [])) d = some (.dT []) := upd_same
    generalize upd G3 d (.dT []) = G4 at c4 e4 h3 h4 h5 hL0 ⊢
    have c5 := same_new (o := .tup [.int 0, .int 1]) h3
    have e5 : (upd G4 a3 (.tup [.int 0, .int 1])) a3 = some (.tup [.int 0, .int 1]) := upd_same
    generalize upd G4 a3 (.tup [.int 0, .int 1]) = G5 at c5 e5 h4 h5 hL0 ⊢
    have c6 := same_new (o := .tup [.int 0, .int 3]) h4
    have e6 : (upd G5 a4 (.tup [.int 0, .int 3])) a4 = some (.tup [.int 0, .int 3]) := upd_same
    generalize upd G5 a4 (.tup [.int 0, .int 3]) = G6 at c6 e6 h5 hL0 ⊢
    have c7 := same_new (o := .tup [.int 2, .int 0]) h5
    have e7 : (upd G6 a5 (.tup [.int 2, .int 0])) a5 = some (.tup [.int 2, .int 0]) := upd_same
    generalize upd G6 a5 (.tup [.int 2, .int 0]) = G7 at c7 e7 hL0 ⊢
    have d6 := c6.trans c7
    have d5 := c5.trans d6
    have d4 := c4.trans d5
    have d3 := c3.trans d4
    have d2 := c2.trans d3
    have d1 := c1.trans d2
    have pb0 : ∀ v ∈ [V.non, .int 5, .str "02", .ref a0, .ref a1, .ref a2, .ref l0, .ref d, .ref a3, .ref a4, .ref a5], PairBad K G7 [1, 2, 5, 1] v := fun v hv => by
      simp only [List.mem_cons, List.not_mem_nil, or_false] at hv
      rcases hv with rfl | rfl | rfl | rfl | rfl | rfl | rfl | rfl | rfl | rfl | rfl
      · exact .inl (.of (fun _ _ => .base .non) (kit_ty (by decide +kernel)))
      · exact .inl (.of (fun _ _ => .base (.int 5)) (kit_ty (by decide +kernel)))
      · exact .inl (.of (fun _ _ => .base (.str _)) (kit_ty (by decide +kernel)))
      · exact bad_tl (d1 _ _ e0) (by decide)
      · exact bad_tl (d2 _ _ e1) (by decide)
      · exact bad_tl (d3 _ _ e2) (by decide)
      · exact .inl (.of (fun _ s => .base (.lst (s _ _ (d4 _ _ e3) (fun _ z => nomatch z)))) (kit_ty (by decide +kernel)))
      · exact .inl (.of (fun _ s => .base (.dT (s _ _ (d5 _ _ e4) (fun _ z => nomatch z)))) (kit_ty (by decide +kernel)))
      · exact bad_pair (p := (0, 1)) (d6 _ _ e5) (by decide)
      · exact bad_pair (p := (0, 3)) (c7 _ _ e6) (by decide)
      · exact bad_pair (p := (2, 0)) e7 (by decide)
    have s07 : Same Hd G7 := c0.trans d1
    clear c0 c1 c2 c3 c4 c5 c6 c7 d1 d2 d3 d4 d5 d6 e0 e1 e2 e3 e4 e5 e6 e7 h0 ha1 h2 hl0 hd h3 h4 h5
    generalize hPS : [V.non, .int 5, .str "02", .ref a0, .ref a1, .ref a2, .ref l0, .ref d, .ref a3, .ref a4, .ref a5] = PS at pb0
    have lPS : PS.length = 11 := by rw [← hPS]; rfl
    have c8 := same_new (o := .lst PS) hL0
    have e8 : (upd G7 L0 (.lst PS)) L0 = some (.lst PS) := upd_same
    have pb8 : ∀ v ∈ PS, PairBad K (upd G7 L0 (.lst PS)) [1, 2, 5, 1] v := fun v hv => (pb0 v hv).mono c8
    have s08 := s07.trans c8
    generalize upd G7 L0 (.lst PS) = G8 at c8 e8 pb8 s08 ⊢
    refine ⟨.ref L0, rfl, (by show 2 ≤ sizeLine; decide), fun a6 h6 => ⟨(by show 2 ≤ sizeLine; decide), fun a7 h7 => ⟨_, rfl, (by show 2 ≤ sizeLine; decide), fun a8 h8 => ⟨.int far, rfl, _, _, rfl, rfl, (by show 2 ≤ sizeLine; decide), fun a9 h9 => ⟨(by show 4 ≤ sizeLine; decide), fun L1 hL1 => ?_⟩⟩⟩⟩⟩
    have c9 := same_new (o := .tup [.int 0, .int 0]) h6
    have e9 : (upd G8 a6 (.tup [.int 0, .int 0])) a6 = some (.tup [.int 0, .int 0]) := upd_same
    generalize upd G8 a6 (.tup [.int 0, .int 0]) = G9 at c9 e9 h7 h8 h9 hL1 ⊢
    have c10 := same_new (o := .tup [.int 0, .int 4]) h7
    have e10 : (upd G9 a7 (.tup [.int 0, .int 4])) a7 = some (.tup [.int 0, .int 4]) := upd_same
    generalize upd G9 a7 (.tup [.int 0, .int 4]) = G10 at c10 e10 h8 h9 hL1 ⊢
    have c11 := same_new (o := .tup [.int (-1), .int 2]) h8
    have e11 : (upd G10 a8 (.tup [.int (-1), .int 2])) a8 = some (.tup [.int (-1), .int 2]) := upd_same
    generalize upd G10 a8 (.tup [.int (-1), .int 2]) = G11 at c11 e11 h9 hL1 ⊢
    have c12 := same_new (o := .tup [.int 0, .int (4 + far)]) h9
    have e12 : (upd G11 a9 (.tup [.int 0, .int (4 + far)])) a9 = some (.tup [.int 0, .int (4 + far)]) := upd_same
    generalize upd G11 a9 (.tup [.int 0, .int (4 + far)]) = G12 at c12 e12 hL1 ⊢
    have d11 := c11.trans c12
    have d10 := c10.trans d11
    have d9 := c9.trans d10
    have pb1 : ∀ v ∈ [V.ref a6, .ref a7, .ref a8, .ref a9], PairBad K G12 [1, 2, 5, 1] v := fun v hv => by
      simp only [List.mem_cons, List.not_mem_nil, or_false] at hv
      rcases hv with rfl | rfl | rfl | rfl
      · exact bad_pair (p := (0, 0)) (d10 _ _ e9) (by decide)
      · exact bad_pair (p := (0, 4)) (d11 _ _ e10) (by decide)
      · exact bad_pair (p := (-1, 2)) (c12 _ _ e11) (by decide)
      · exact bad_pair (p := (0, 4 + far)) e12 (by show ¬ ((0 : Int) = 0 ∧ 4 + far = 2 ∨ (0 : Int) = 2 ∧ 4 + far = 3); omega)
    have c13 := same_new (o := .lst [.ref a6, .ref a7, .ref a8, .ref a9]) hL1
    have e13 : (upd G12 L1 (.lst [.ref a6, .ref a7, .ref a8, .ref a9])) L1 = some (.lst [.ref a6, .ref a7, .ref a8, .ref a9]) := upd_same
    have s13 := d9.trans c13
    have pb13 : ∀ v ∈ PS ++ [V.ref a6, .ref a7, .ref a8, .ref a9], PairBad K (upd G12 L1 (.lst [.ref a6, .ref a7, .ref a8, .ref a9])) [1, 2, 5, 1] v := fun v hv => by
      rcases List.mem_append.mp hv with hv | hv
      · exact (pb8 v hv).mono s13
      · exact (pb1 v hv).mono c13
    generalize upd G12 L1 (.lst [.ref a6, .ref a7, .ref a8, .ref a9]) = G13 at c13 e13 s13 pb13 ⊢
    refine ⟨L0, L1, PS, _, rfl, rfl, s13 _ _ e8, e13, (by rw [lPS]; show 11 + 4 ≤ sizeLine; decide), fun L2 hL2 => ?_⟩
    have c14 := same_new (o := .lst (PS ++ [.ref a6, .ref a7, .ref a8, .ref a9])) hL2
    have e14 : (upd G13 L2 (.lst (PS ++ [.ref a6, .ref a7, .ref a8, .ref a9]))) L2 = some (.lst (PS ++ [.ref a6, .ref a7, .ref a8, .ref a9])) := upd_same
    have s14 := (s08.trans s13).trans c14
    have pb14 : ∀ v ∈ PS ++ [V.ref a6, .ref a7, .ref a8, .ref a9], PairBad K (upd G13 L2 (.lst (PS ++ [.ref a6, .ref a7, .ref a8, .ref a9]))) [1, 2, 5, 1] v := fun v hv => (pb13 v hv).mono c14
    have l14 : (PS ++ [V.ref a6, .ref a7, .ref a8, .ref a9]).length = 15 := by rw [List.length_append, lPS]; rfl
    generalize upd G13 L2 (.lst (PS ++ [.ref a6, .ref a7, .ref a8, .ref a9])) = G14 at c14 e14 s14 pb14 ⊢
    generalize PS ++ [V.ref a6, .ref a7, .ref a8, .ref a9] = PP at e14 pb14 l14 ⊢
    clear c8 c9 c10 c11 c12 c13 d9 d10 d11 e8 e9 e10 e11 e12 e13 pb0 pb1 pb8 pb13 s13 h6 h7 h8 h9 hL0 hL1 hL2 s07 s08 hPS
    -- strange ones in pairs
    refine ⟨.int far, rfl, far, rfl, by omega, fun HA st xs sA hst hxs lx odd => ?_⟩
    refine ⟨st, rfl, ⟨_, SqL.of hxs⟩, for_list (K := K) (a := st) (xs := xs)
      (fun i σ H' => ∃ (L : Addr) (ps : List V) (x4 : Option V), σ = [some (.int far), x1, x2, some (.ref L), x4, none] ∧ Same HA H' ∧ H' L = some (.lst ps) ∧ ps.length = 15 + 2 * i ∧ ∀ v ∈ ps, PairBad K H' [1, 2, 5, 1] v)
      ⟨L2, PP, _, rfl, Same.refl _, sA _ _ e14, l14, fun v hv => (pb14 v hv).mono sA⟩ (fun i σ H' _ h => ?_) (fun i x σ HB hx h => ?_) (fun σ HB h => ?_)⟩
    · obtain ⟨_, _, _, _, s, _⟩ := h
      exact SqL.of (s _ _ hxs)
    · obtain ⟨L, ps, x4, rfl, sB, hL, lp, pb⟩ := h
      have hi := (List.getElem?_eq_some_iff.mp hx).1
      have ox := ((odd x (List.mem_of_getElem? hx)).1).at (H1 := HB) fun c o _ e _ => sB c o e
      refine ⟨.ref L, rfl, x, rfl, (by show 2 ≤ sizeLine; decide), fun b1 hb1 => ⟨x, ?_, (by show 2 ≤ sizeLine; decide), fun b2 hb2 => ⟨(by show 2 ≤ sizeLine; decide), fun M hM => ?_⟩⟩⟩
      · rfl
      have f1 := same_new (o := .tup [x, .int 2]) hb1
      have g1 : (upd HB b1 (.tup [x, .int 2])) b1 = some (.tup [x, .int 2]) := upd_same
      generalize upd HB b1 (.tup [x, .int 2]) = HC at f1 g1 hb2 hM ⊢
      have f2 := same_new (o := .tup [.int 0, x]) hb2
      have g2 : (upd HC b2 (.tup [.int 0, x])) b2 = some (.tup [.int 0, x]) := upd_same
      generalize upd HC b2 (.tup [.int 0, x]) = HD at f2 g2 hM ⊢
      have f3 := same_new (o := .lst [.ref b1, .ref b2]) hM
      have g3 : (upd HD M (.lst [.ref b1, .ref b2])) M = some (.lst [.ref b1, .ref b2]) := upd_same
      generalize upd HD M (.lst [.ref b1, .ref b2]) = HE at f3 g3 ⊢
      have f13 := (f1.trans f2).trans f3
      have pbE : ∀ v ∈ ps ++ [V.ref b1, .ref b2], PairBad K HE [1, 2, 5, 1] v := fun v hv => by
        rcases List.mem_append.mp hv with hv | hv
        · exact (pb v hv).mono f13
        · simp only [List.mem_cons, List.not_mem_nil, or_false] at hv
          have oE := ox.at (H1 := HE) fun c o _ e _ => f13 c o e
          rcases hv with rfl | rfl
          · exact bad_odd1 (f3 _ _ (f2 _ _ g1)) oE
          · exact bad_odd2 (f3 _ _ g2) oE
      refine ⟨L, M, ps, _, rfl, rfl, f13 _ _ hL, g3, (by rw [lp]; show 15 + 2 * i + 2 ≤ sizeLine; exact Nat.le_of_lt (small1000 (by omega))), fun L3 hL3 => ?_⟩
      have f4 := same_new (o := .lst (ps ++ [.ref b1, .ref b2])) hL3
      exact ⟨L3, _, _, rfl, (sB.trans f13).trans f4, upd_same, by rw [List.length_append, lp]; show 15 + 2 * i + 2 = 15 + 2 * (i + 1); omega, fun v hv => (pbE v hv).mono f4⟩
    -- all of them, at both doors
    obtain ⟨L, ps, x4, rfl, sB, hL, lp, pb⟩ := h
    have tB := td.ext ((s14.trans sA).trans sB)
    have eB : LamX.ExtN H HB := eH.trans (.of ((s14.trans sA).trans sB))
    refine ⟨.ref L, rfl, L, rfl, ⟨_, SqL.of hL⟩, for_list (K := K) (a := L) (xs := ps)
      (fun _ σ H' => ∃ y2 y5, σ = [some (.int far), x1, y2, some (.ref L), x4, y5] ∧ LamX.ExtN HB H' ∧ LamX.Tabs T H')
      ⟨_, _, rfl, LamX.ExtN.refl _, tB⟩ (fun i σ H' _ h => ?_) (fun i x σ HC hx h => ?_) (fun σ HC h => ?_)⟩
    · obtain ⟨_, _, _, e, _⟩ := h
      exact SqL.of (e _ _ hL (fun _ z => nomatch z))
    · obtain ⟨y2, y5, rfl, eC, tC⟩ := h
      have bx := (pb x (List.mem_of_getElem? hx)).ext eC
      refine ⟨(by show 2 ≤ sizeLine; decide), fun t ht => ?_⟩
      have sD := same_new (o := .tup [.ref f_evened, .ref f_fall]) ht
      have htt : (upd HC t (.tup [.ref f_evened, .ref f_fall])) t = some (.tup [.ref f_evened, .ref f_fall]) := upd_same
      generalize upd HC t (.tup [.ref f_evened, .ref f_fall]) = HD at sD htt
      refine ⟨t, rfl, ⟨_, SqT.of htt⟩, for_tup (K := K) (a := t) (xs := [.ref f_evened, .ref f_fall])
        (fun _ σ H' => ∃ y2, σ = [some (.int far), x1, y2, some (.ref L), x4, some x] ∧ LamX.ExtN HD H' ∧ LamX.Tabs T H')
        ⟨_, rfl, LamX.ExtN.refl _, tC.ext sD⟩ (fun i σ H' _ h => ?_) (fun i y σ HE hy h => ?_) (fun σ HE h => ?_)⟩
      · obtain ⟨_, _, e, _⟩ := h
        exact SqT.of (e _ _ htt (fun _ z => nomatch z))
      · obtain ⟨y2, rfl, eE, tE⟩ := h
        refine ⟨tE, fun H2 e2 E2 Q2 hE2 => ?_, fun H5 e5 t5 => iteF ⟨_, rfl, eE.trans e5, t5⟩⟩
        have b2 := ((bx.mono sD).ext eE).ext e2
        have hy' := List.mem_of_getElem? hy
        have four : ∀ z, H2 z = none → sp_bad2X K CB CE [.ref z, x] (upd H2 z (.lst [.int 1, .int 2, .int 5, .int 1])) Q2 E2 := fun z hz => by
          have sz := same_new (o := .lst [.int 1, .int 2, .int 5, .int 1]) hz
          exact ⟨_, _, rfl, .inr ⟨z, [1, 2, 5, 1], rfl, upd_same, by unfold RowOk; decide, b2.mono sz, fun H' s' => hE2 H' (sz.trans s')⟩⟩
        simp only [List.mem_cons, List.not_mem_nil, or_false] at hy'
        rcases hy' with rfl | rfl
        · exact ⟨_, _, rfl, .inl ⟨rfl, rfl⟩, (by show 4 ≤ sizeLine; decide), fun z hz => ⟨x, rfl, .inr (four z hz)⟩⟩
        · exact ⟨_, _, rfl, .inr ⟨rfl, rfl⟩, (by show 4 ≤ sizeLine; decide), fun z hz => ⟨x, rfl, .inr (four z hz)⟩⟩
      · obtain ⟨y2, rfl, eE, tE⟩ := h
        exact ⟨_, _, rfl, (eC.trans (.of sD)).trans eE, tE⟩
    · obtain ⟨y2, y5, rfl, eC, tC⟩ := h
      exact q HC (eB.trans eC) tC
end
end EG

/-! law_k05: the law's own body. -/
namespace EG
open PySem PySem.Spec PyProof.Rows L2
theorem passF {X : Cx} : Passes (L2.CX X.prog X.w) X (fun _ _ _ => False) := passes_call LamX.takes0 (fun _ _ _ _ h => h)
theorem srt_one {ns : Rw} {Fd : List Rw} (s : Stl ns Fd) (e : evs ns = []) : srt Fd = [ns] := by
  have one : ∀ k r, Rch ns k r → r = ns := by
    intro k r hk
    induction hk with
    | zero => rfl
    | step h hp ih => rw [ih, e] at hp; cases hp
  have p : Fd.Perm [ns] := perm_of_mem s.1 (by simp) fun x => (s.2 x).trans ⟨fun ⟨k, hk, _⟩ => List.mem_singleton.mpr (one k x hk), fun h => by
    rw [List.mem_singleton.mp h]
    exact ⟨0, .zero _, e⟩⟩
  rw [List.perm_singleton.mp p]
  unfold srt
  simp
section
variable {P : Program} {w : World} {K : PySem.W.Frag} {mg : Str → Option Value} {base : Heap}
def sp_law (K : PySem.W.Frag) (T : List (Addr × Str)) : Sp := fun vs H Q _ => ∃ (a : Addr) (ns : List Int), vs = [.ref a] ∧ SqL K H a (ns.map V.int) ∧ ns.length ≤ 63 ∧ (∀ z ∈ ns, bits z ≤ 1048576) ∧ LamX.Tabs T H ∧ ∀ H', Q (.bl true) H'
abbrev N_law : List Str := ["_law_script", "_law_by"]
theorem ok_law {f CB CE : Addr} {fd : FuncData} {T : List (Addr × Str)} (F : Fun K "law" "law" s_law f fd) (B : Blt mg) (c_l_right : Cal CX0 P w K mg base "_law_right" ["_law_far"] 7 (sp_right T))
    (c_l_value : Cal CX0 P w K mg base "_law_value" ["_law_cell", "_law_turn"] 2 sp_value) (c_l_cell_at : Cal CX0 P w K mg base "_law_cell_at" ["_law_script", "_law_k"] 1 (sp_cell_at K))
    (c_evened : Cal (L2.CX P w) P w K mg base "evened" ["row", "evening"] 4 (sp_evenedX K CB CE)) (c_fall : Cal (L2.CX P w) P w K mg base "fall" ["row", "evening"] 4 (sp_fallX K CB CE))
    (c_settled : Cal (L2.CX P w) P w K mg base "settled" ["row"] 3 (sp_settledX K CB)) (c_ends : Cal (L2.CX P w) P w K mg base "ends" ["row"] 3 (sp_endsX K CB)) : FnOk P w K mg base CX0 8 f fd ["_law_script"] (sp_law K T) := by
  refine F.ok sc_law (fun vs H Q E h => ?_) (fun cdv A outer s H vs Q E hr h => ?_)
  · obtain ⟨a, ns, rfl, _⟩ := h
    rfl
  · obtain ⟨a, ns, rfl, hS, hl, hb, tabs, q⟩ := h
    refine ⟨_, (pss_cons (ps_set (i := 0) sc_law.nd rfl (.inl rfl) (pe_slice (r := rSlL K) sl_list (pv 0) po_none (po_some pe_int)))
    (pss_cons (ps_for PassesOwn.never rfl (pi_tup (pe_tup (pa_cons pe_int (pa_cons pe_int pa_nil)))) (pg_name (i := 1) sc_law.nd rfl (.inl rfl))
    (pss_one (ps_if (pt_not (pt_val (pe_cal c_l_right hr (by rfl) (pa_cons (pe_op op_add pe_int (pe_op op_mod (pe_cal c_l_value hr (by rfl) (pa_cons (pe_cal c_l_cell_at hr (by rfl) (pa_cons (pv 0) (pa_cons (pv 1) pa_nil))) (pa_cons pe_int pa_nil))) (pe_op op_pow pe_int pe_int))) pa_nil))))
      (pss_one (ps_ret pe_bl))
      pss_nil)))
    (pss_cons (ps_if (PW.pt (pw_or (pt_cmpR (r := rNeD K) (op_neD hr.units) (pe_calX (E := fun _ _ _ => False) c_evened hr passF (by rfl) (pa_cons (pe_lst (pa_cons pe_int (pa_cons pe_int (pa_cons pe_int (pa_cons pe_int pa_nil))))) (pa_cons (pe_tup (pa_cons pe_int (pa_cons pe_int pa_nil))) pa_nil))) (pe_lst (pa_cons pe_int (pa_cons pe_int (pa_cons pe_int (pa_cons pe_int pa_nil))))) (nomark _)) (pw_or1 (pt_cmpR op_ne (pe_calX (E := fun _ _ _ => False) c_fall hr passF (by rfl) (pa_cons (pe_lst (pa_cons pe_int (pa_cons pe_int pa_nil))) (pa_cons (pe_tup (pa_cons pe_int (pa_cons pe_int pa_nil))) pa_nil))) pe_int (nomark _)))))
    (pss_one (ps_ret pe_bl))
    pss_nil)
    (pss_one (ps_ret (pe_and (pe_cmpR op_isBl (pe_calX (E := fun _ _ _ => False) c_settled hr passF (by rfl) (pa_cons (pe_op op_rep (pe_lst (pa_cons pe_int pa_nil)) pe_int) pa_nil)) pe_bl (nomark _)) (pe_one (pe_cmpR (r := rEqD K) (op_eqD hr.units) (pe_calX (E := fun _ _ _ => False) c_ends hr passF (by rfl) (pa_cons (pe_op op_rep (pe_lst (pa_cons pe_int pa_nil)) pe_int) pa_nil)) (pe_lst (pa_cons (pe_op op_rep (pe_lst (pa_cons pe_int pa_nil)) pe_int) pa_nil)) (nomark _))))))))), ?_⟩
    obtain ⟨cs, ecs, hcs, lcs⟩ := cut63 ns
    refine ⟨.ref a, rfl, 63, rfl, a, _, rfl, hS, fun sc hsc => ?_⟩
    rw [ecs]
    have s0 : Same H (upd H sc (.lst (cs.map V.int))) := same_new hsc
    have hSc : Lst (upd H sc (.lst (cs.map V.int))) sc cs := upd_same
    have bcs : ∀ z ∈ cs, bits z ≤ 1048576 := fun z hz => hb z (hcs z hz)
    have tabs0 := tabs.ext s0
    generalize upd H sc (.lst (cs.map V.int)) = H0 at hSc tabs0
    clear s0 tabs hS
    refine ⟨(by show 2 ≤ sizeLine; decide), fun t ht => ?_⟩
    have s1 := same_new (o := .tup [.int 0, .int 3]) ht
    have htt : (upd H0 t (.tup [.int 0, .int 3])) t = some (.tup [.int 0, .int 3]) := upd_same
    have hSc1 := hSc.mono s1
    have tabs1 := tabs0.ext s1
    generalize upd H0 t (.tup [.int 0, .int 3]) = H1 at hSc1 tabs1 htt
    refine ⟨t, rfl, ⟨_, SqT.of htt⟩, for_tup (K := K) (a := t) (xs := [.int 0, .int 3])
      (fun _ σ H' => ∃ x1, σ = [some (.ref sc), x1] ∧ LamX.ExtN H1 H' ∧ LamX.Tabs T H')
      ⟨_, rfl, LamX.ExtN.refl _, tabs1⟩ (fun i σ H' _ h => ?_) (fun i x σ H2 hx h => ?_) (fun σ H2 h => ?_)⟩
    · obtain ⟨_, _, e, _⟩ := h
      exact SqT.of (e _ _ htt (fun _ z => nomatch z))
    · obtain ⟨x1, rfl, e2, t2⟩ := h
      have hSc2 : Lst H2 sc cs := e2 _ _ hSc1 (fun _ z => nomatch z)
      obtain ⟨k, rfl, hk⟩ : ∃ k : Int, x = .int k ∧ 0 ≤ k := by
        have hx' := List.mem_of_getElem? hx
        simp only [List.mem_cons, List.not_mem_nil, or_false] at hx'
        rcases hx' with rfl | rfl
        · exact ⟨_, rfl, by decide⟩
        · exact ⟨_, rfl, by decide⟩
      refine ⟨.ref sc, rfl, .int k, rfl, sc, cs, k, rfl, hSc2.sq, hk, fun c hc => ?_⟩
      have bc : bits c ≤ 1048576 := by
        rcases hc with rfl | hc
        · decide
        · exact bcs c hc
      refine ⟨c, 7, rfl, by omega, by decide, by decide, fun H3 v s3 => ?_⟩
      have pw : CPow 10 20 := ⟨by decide, by decide, by decide⟩
      refine ⟨_, _, rfl, rfl, pw, _, _, rfl, rfl, (by show (0 : Int) < 10 ^ 20; decide), _, _, rfl, rfl, ?_⟩
      have p20 : (0 : Int) < 10 ^ (20 : Int).toNat := by decide
      refine ⟨_, rfl, ?_, t2.ext s3, fun H4 e4 t4 => ⟨true, rfl, iteF ⟨_, rfl, (e2.trans (.of s3)).trans e4, t4⟩⟩⟩
      have := Int.emod_nonneg v (Int.ne_of_gt p20)
      omega
    · obtain ⟨x1, rfl, _, _⟩ := h
      have okA : RowOk [1, 2, 5, 1] 12 1000000 := by unfold RowOk; decide
      have okB : RowOk [0, 1000000] 12 1000000 := by unfold RowOk; decide
      have okC : RowOk (List.replicate 12 0) 12 1000000 := by unfold RowOk; decide
      have eA : ((0 : Int), (2 : Int)) ∈ evs [1, 2, 5, 1] := by decide
      have eA2 : behP [1, 2, 5, 1] (0, 2) = [3, 2, 3, 1] := by decide
      have eB : ((0 : Int), (1 : Int)) ∈ evs [0, 1000000] := by decide
      have eB2 : fallP [0, 1000000] (0, 1) = 500000000000 := by decide
      have eC : evs (List.replicate 12 0) = [] := by decide
      have eD : evs (List.replicate 5 20) = [] := by decide
      refine ⟨(by show 4 ≤ sizeLine; decide), fun l hl => ⟨(by show 2 ≤ sizeLine; decide), fun t1 ht1 => .inl ⟨l, t1, [1, 2, 5, 1], (0, 2), rfl, same_new ht1 _ _ upd_same, okA, upd_same, eA, fun H3 o s3 ho hO => ?_⟩⟩⟩
      rw [eA2] at hO
      refine ⟨(by show 4 ≤ sizeLine; decide), fun l2 hl2 => ?_⟩
      refine ⟨rowD [3, 2, 3, 1], rowD [3, 2, 3, 1], dp_row' (hO.mono (same_new hl2)), dp_row (SqL.of upd_same), shaped_row _, shaped_row _, _, rfl, itN (nq_row _) ?_⟩
      generalize upd H3 l2 (.lst [.int 3, .int 2, .int 3, .int 1]) = H4
      refine ⟨(by show 2 ≤ sizeLine; decide), fun l3 hl3 => ⟨(by show 2 ≤ sizeLine; decide), fun t3 ht3 => .inl ⟨l3, t3, [0, 1000000], (0, 1), rfl, same_new ht3 _ _ upd_same, okB, upd_same, eB, fun H5 s5 => ?_⟩⟩⟩
      rw [eB2]
      refine ⟨rfl, _, rfl, iteF ?_⟩
      refine ⟨(by show 1 ≤ sizeLine; decide), fun l4 hl4 => ?_⟩
      refine ⟨l4, 12, _, rfl, rfl, upd_same, by decide, by decide, (by show 12 ≤ sizeLine; decide), fun l5 hl5 => ?_⟩
      refine .inl ⟨l5, List.replicate 12 0, rfl, upd_same, okC, fun H6 s6 => ?_⟩
      rw [decide_eq_true eC]
      refine ⟨true, true, rfl, rfl, _, rfl, iteT ?_⟩
      refine ⟨(by show 1 ≤ sizeLine; decide), fun l6 hl6 => ?_⟩
      refine ⟨l6, 5, _, rfl, rfl, upd_same, by decide, by decide, (by show 5 ≤ sizeLine; decide), fun l7 hl7 => ?_⟩
      refine .inl ⟨l7, List.replicate 5 20, rfl, upd_same, by unfold Small RowOk; decide, fun HA o2 ys Fd sA ho2 hO2 nw st => ?_⟩
      refine ⟨(by show 1 ≤ sizeLine; decide), fun m1 hm1 => ?_⟩
      have c1 := same_new (o := .lst [.int 20]) hm1
      have d1 : (upd HA m1 (.lst [.int 20])) m1 = some (.lst [.int 20]) := upd_same
      generalize upd HA m1 (.lst [.int 20]) = G1 at c1 d1
      refine ⟨m1, 5, _, rfl, rfl, d1, by decide, by decide, (by show 5 ≤ sizeLine; decide), fun m2 hm2 => ⟨(by show 1 ≤ sizeLine; decide), fun m3 hm3 => ?_⟩⟩
      have c2 : Same G1 (upd G1 m2 (.lst (List.replicate 5 (.int 20)))) := same_new hm2
      have d2 : Lst (upd G1 m2 (.lst (List.replicate 5 (.int 20)))) m2 (List.replicate 5 20) := upd_same
      have hm3' : (upd G1 m2 (.lst (List.replicate 5 (.int 20)))) m3 = none := hm3
      show (rEqD K) _ _ (upd (upd G1 m2 (.lst (List.replicate 5 (.int 20)))) m3 _) _
      generalize upd G1 m2 (.lst (List.replicate 5 (.int 20))) = G2 at c2 d2 hm3'
      have c3 : Same G2 (upd G2 m3 (.lst [.ref m2])) := same_new hm3'
      have d3 : (upd G2 m3 (.lst [.ref m2])) m3 = some (.lst [.ref m2]) := upd_same
      generalize upd G2 m3 (.lst [.ref m2]) = G3 at c3 d3
      have cA := (c1.trans c2).trans c3
      have eS : srt Fd = [List.replicate 5 20] := srt_one st eD
      refine ⟨rowsD (srt Fd), rowsD [List.replicate 5 20], dp_rows (SqL.of (cA _ _ hO2)) (Nws.mono (Same.lsts cA) (Nws.mono (Same.lsts (hid_same HA [o2])) nw)).rows, dp_rows (SqL.of d3) (.cons ⟨m2, rfl, d2.mono c3⟩ .nil), shaped_rows _, shaped_rows _, ?_⟩
      rw [eqv_rows, decide_eq_true eS]
      exact q _
end
end EG

/-! isinstance of an own class, from what the top has written. -/
namespace EG
open PySem L2
theorem kit_mk {K : PySem.W.Frag} {C D : Addr} {b : Bool} (hc : PySem.W.isClsIn K D = true) (ht : PySem.W.typeIn K (.ref D) = some (.type "type")) (hs : PySem.W.subIn K (.ref C) (.ref D) = some b) (hd : PySem.W.subIn K (.ref D) (.ref D) = some true) :
    PySem.W.kitOne K (.ref C) (.ref D) = some b := by
  unfold PySem.W.kitOne
  by_cases e : C = D
  · subst e
    rw [hs] at hd
    rw [if_pos (beq_self_eq_true _)]
    exact hd.symm
  · have ne : ¬ ((Value.ref C == Value.ref D) = true) := fun z => e (Value.ref.inj (eq_of_beq z))
    rw [if_neg ne]
    show (if ((PySem.W.clsIn K D).isSome && PySem.W.typeIn K (.ref D) == some (.type "type")) = true then PySem.W.subIn K (.ref C) (.ref D) else none) = some b
    have hc2 : (PySem.W.clsIn K D).isSome = true := hc
    rw [ht, hc2, if_pos (by decide)]
    exact hs
end EG

/-! isinstance of a built-in class, from what the top has written. -/
namespace EG
open PySem L2
theorem kit_bi {K : PySem.W.Frag} {C : Addr} {T : String} {b : Bool} (m : PySem.W.kitMeta T = true) (h : PySem.W.subIn K (.ref C) (.type T) = some b) : PySem.W.kitOne K (.ref C) (.type T) = some b := by
  unfold PySem.W.kitOne
  have ne : ¬ ((Value.ref C == Value.type T) = true) := fun z => nomatch (eq_of_beq z)
  rw [if_neg ne]
  show (if PySem.W.kitMeta T = true then PySem.W.subIn K (.ref C) (.type T) else none) = some b
  rw [if_pos m]
  exact h
end EG

/-! What the top has written, and the law. -/
namespace EG
open PySem L2
theorem all_mk {l : PySem.W.OpenLaw} {w : World} {K : PySem.W.Frag} {h : Heap} {mg : Str → Option Value} {fa : Addr} (X : K.In h) (G : h.Ns mainGlobals mg) (hfa : mg "law" = some (.ref fa))
    {f0 f1 f2 f3 f4 f5 f6 f7 f8 f9 f10 f11 f12 f13 f14 f15 f16 f17 f18 f19 : Addr} {od0 an0 od1 an1 od2 an2 od3 an3 od4 an4 od5 an5 od6 an6 od7 an7 od8 an8 od9 an9 od10 an10 od11 an11 od12 an12 od13 an13 od14 an14 od15 an15 od16 an16 od17 an17 od18 an18 od19 an19 : Option Addr} {sl0 sl1 sl2 sl3 sl4 sl5 sl6 sl7 sl8 sl9 sl10 sl11 sl12 sl13 sl14 sl15 sl16 sl17 sl18 sl19 : Array (Option Value)}
    {oc0 kV0 dc0 pm0 cd0 ct0 oc1 kV1 dc1 pm1 cd1 ct1 oc2 kV2 dc2 pm2 cd2 ct2 oc3 kV3 dc3 pm3 cd3 ct3 oc4 kV4 dc4 pm4 cd4 ct4 oc5 kV5 dc5 pm5 cd5 ct5 oc6 kV6 dc6 pm6 cd6 ct6 oc7 kV7 dc7 pm7 cd7 ct7 oc8 kV8 dc8 pm8 cd8 ct8 oc9 kV9 dc9 pm9 cd9 ct9 oc10 kV10 dc10 pm10 cd10 ct10 oc11 kV11 dc11 pm11 cd11 ct11 oc12 kV12 dc12 pm12 cd12 ct12 oc13 kV13 dc13 pm13 cd13 ct13 oc14 kV14 dc14 pm14 cd14 ct14 oc15 kV15 dc15 pm15 cd15 ct15 oc16 kV16 dc16 pm16 cd16 ct16 oc17 kV17 dc17 pm17 cd17 ct17 oc18 kV18 dc18 pm18 cd18 ct18 oc19 kV19 dc19 pm19 cd19 ct19 : Value} {t_MOST t_GREATEST t_FEW t_SMALL : Tok}
    (a0 : PySem.W.nsIn K mainGlobals "is_whole" = some (some (.ref f0))) (l0 : K.lookup f0 = some ⟨oc0, od0, .func (PySem.W.fnOf "is_whole" "is_whole" (defArgs s_is_whole) (defBody s_is_whole) (defScope s_is_whole) .none kV0 dc0 pm0 an0 cd0 ct0), sl0⟩)
    (c0 : PySem.W.codeIn K cd0 "is_whole" = true) (k0 : PySem.W.keepIn K (.ref f0) = true)
    (a1 : PySem.W.nsIn K mainGlobals "check_row" = some (some (.ref f1))) (l1 : K.lookup f1 = some ⟨oc1, od1, .func (PySem.W.fnOf "check_row" "check_row" (defArgs s_check_row) (defBody s_check_row) (defScope s_check_row) .none kV1 dc1 pm1 an1 cd1 ct1), sl1⟩)
    (c1 : PySem.W.codeIn K cd1 "check_row" = true) (k1 : PySem.W.keepIn K (.ref f1) = true)
    (a2 : PySem.W.nsIn K mainGlobals "evenings_of" = some (some (.ref f2))) (l2 : K.lookup f2 = some ⟨oc2, od2, .func (PySem.W.fnOf "evenings_of" "evenings_of" (defArgs s_evenings_of) (defBody s_evenings_of) (defScope s_evenings_of) .none kV2 dc2 pm2 an2 cd2 ct2), sl2⟩)
    (c2 : PySem.W.codeIn K cd2 "evenings_of" = true) (k2 : PySem.W.keepIn K (.ref f2) = true)
    (a3 : PySem.W.nsIn K mainGlobals "behind" = some (some (.ref f3))) (l3 : K.lookup f3 = some ⟨oc3, od3, .func (PySem.W.fnOf "behind" "behind" (defArgs s_behind) (defBody s_behind) (defScope s_behind) .none kV3 dc3 pm3 an3 cd3 ct3), sl3⟩)
    (c3 : PySem.W.codeIn K cd3 "behind" = true) (k3 : PySem.W.keepIn K (.ref f3) = true)
    (a4 : PySem.W.nsIn K mainGlobals "evenings" = some (some (.ref f4))) (l4 : K.lookup f4 = some ⟨oc4, od4, .func (PySem.W.fnOf "evenings" "evenings" (defArgs s_evenings) (defBody s_evenings) (defScope s_evenings) .none kV4 dc4 pm4 an4 cd4 ct4), sl4⟩)
    (c4 : PySem.W.codeIn K cd4 "evenings" = true) (k4 : PySem.W.keepIn K (.ref f4) = true)
    (a5 : PySem.W.nsIn K mainGlobals "settled" = some (some (.ref f5))) (l5 : K.lookup f5 = some ⟨oc5, od5, .func (PySem.W.fnOf "settled" "settled" (defArgs s_settled) (defBody s_settled) (defScope s_settled) .none kV5 dc5 pm5 an5 cd5 ct5), sl5⟩)
    (c5 : PySem.W.codeIn K cd5 "settled" = true) (k5 : PySem.W.keepIn K (.ref f5) = true)
    (a6 : PySem.W.nsIn K mainGlobals "check_evening" = some (some (.ref f6))) (l6 : K.lookup f6 = some ⟨oc6, od6, .func (PySem.W.fnOf "check_evening" "check_evening" (defArgs s_check_evening) (defBody s_check_evening) (defScope s_check_evening) .none kV6 dc6 pm6 an6 cd6 ct6), sl6⟩)
    (c6 : PySem.W.codeIn K cd6 "check_evening" = true) (k6 : PySem.W.keepIn K (.ref f6) = true)
    (a7 : PySem.W.nsIn K mainGlobals "evened" = some (some (.ref f7))) (l7 : K.lookup f7 = some ⟨oc7, od7, .func (PySem.W.fnOf "evened" "evened" (defArgs s_evened) (defBody s_evened) (defScope s_evened) .none kV7 dc7 pm7 an7 cd7 ct7), sl7⟩)
    (c7 : PySem.W.codeIn K cd7 "evened" = true) (k7 : PySem.W.keepIn K (.ref f7) = true)
    (a8 : PySem.W.nsIn K mainGlobals "fall" = some (some (.ref f8))) (l8 : K.lookup f8 = some ⟨oc8, od8, .func (PySem.W.fnOf "fall" "fall" (defArgs s_fall) (defBody s_fall) (defScope s_fall) .none kV8 dc8 pm8 an8 cd8 ct8), sl8⟩)
    (c8 : PySem.W.codeIn K cd8 "fall" = true) (k8 : PySem.W.keepIn K (.ref f8) = true)
    (a9 : PySem.W.nsIn K mainGlobals "alike" = some (some (.ref f9))) (l9 : K.lookup f9 = some ⟨oc9, od9, .func (PySem.W.fnOf "alike" "alike" (defArgs s_alike) (defBody s_alike) (defScope s_alike) .none kV9 dc9 pm9 an9 cd9 ct9), sl9⟩)
    (c9 : PySem.W.codeIn K cd9 "alike" = true) (k9 : PySem.W.keepIn K (.ref f9) = true)
    (a10 : PySem.W.nsIn K mainGlobals "fewest_most" = some (some (.ref f10))) (l10 : K.lookup f10 = some ⟨oc10, od10, .func (PySem.W.fnOf "fewest_most" "fewest_most" (defArgs s_fewest_most) (defBody s_fewest_most) (defScope s_fewest_most) .none kV10 dc10 pm10 an10 cd10 ct10), sl10⟩)
    (c10 : PySem.W.codeIn K cd10 "fewest_most" = true) (k10 : PySem.W.keepIn K (.ref f10) = true)
    (a11 : PySem.W.nsIn K mainGlobals "ends" = some (some (.ref f11))) (l11 : K.lookup f11 = some ⟨oc11, od11, .func (PySem.W.fnOf "ends" "ends" (defArgs s_ends) (defBody s_ends) (defScope s_ends) .none kV11 dc11 pm11 an11 cd11 ct11), sl11⟩)
    (c11 : PySem.W.codeIn K cd11 "ends" = true) (k11 : PySem.W.keepIn K (.ref f11) = true)
    (a12 : PySem.W.nsIn K mainGlobals "_law_cell_at" = some (some (.ref f12))) (l12 : K.lookup f12 = some ⟨oc12, od12, .func (PySem.W.fnOf "_law_cell_at" "_law_cell_at" (defArgs s_l_cell_at) (defBody s_l_cell_at) (defScope s_l_cell_at) .none kV12 dc12 pm12 an12 cd12 ct12), sl12⟩)
    (c12 : PySem.W.codeIn K cd12 "_law_cell_at" = true) (k12 : PySem.W.keepIn K (.ref f12) = true)
    (a13 : PySem.W.nsIn K mainGlobals "_law_draw" = some (some (.ref f13))) (l13 : K.lookup f13 = some ⟨oc13, od13, .func (PySem.W.fnOf "_law_draw" "_law_draw" (defArgs s_l_draw) (defBody s_l_draw) (defScope s_l_draw) .none kV13 dc13 pm13 an13 cd13 ct13), sl13⟩)
    (c13 : PySem.W.codeIn K cd13 "_law_draw" = true) (k13 : PySem.W.keepIn K (.ref f13) = true)
    (a14 : PySem.W.nsIn K mainGlobals "_law_value" = some (some (.ref f14))) (l14 : K.lookup f14 = some ⟨oc14, od14, .func (PySem.W.fnOf "_law_value" "_law_value" (defArgs s_l_value) (defBody s_l_value) (defScope s_l_value) .none kV14 dc14 pm14 an14 cd14 ct14), sl14⟩)
    (c14 : PySem.W.codeIn K cd14 "_law_value" = true) (k14 : PySem.W.keepIn K (.ref f14) = true)
    (a15 : PySem.W.nsIn K mainGlobals "_law_kinds" = some (some (.ref f15))) (l15 : K.lookup f15 = some ⟨oc15, od15, .func (PySem.W.fnOf "_law_kinds" "_law_kinds" (defArgs s_l_kinds) (defBody s_l_kinds) (defScope s_l_kinds) .none kV15 dc15 pm15 an15 cd15 ct15), sl15⟩)
    (c15 : PySem.W.codeIn K cd15 "_law_kinds" = true) (k15 : PySem.W.keepIn K (.ref f15) = true)
    (a16 : PySem.W.nsIn K mainGlobals "_law_strange" = some (some (.ref f16))) (l16 : K.lookup f16 = some ⟨oc16, od16, .func (PySem.W.fnOf "_law_strange" "_law_strange" (defArgs s_l_strange) (defBody s_l_strange) (defScope s_l_strange) .none kV16 dc16 pm16 an16 cd16 ct16), sl16⟩)
    (c16 : PySem.W.codeIn K cd16 "_law_strange" = true) (k16 : PySem.W.keepIn K (.ref f16) = true)
    (a17 : PySem.W.nsIn K mainGlobals "_law_no_rows" = some (some (.ref f17))) (l17 : K.lookup f17 = some ⟨oc17, od17, .func (PySem.W.fnOf "_law_no_rows" "_law_no_rows" (defArgs s_l_no_rows) (defBody s_l_no_rows) (defScope s_l_no_rows) .none kV17 dc17 pm17 an17 cd17 ct17), sl17⟩)
    (c17 : PySem.W.codeIn K cd17 "_law_no_rows" = true) (k17 : PySem.W.keepIn K (.ref f17) = true)
    (a18 : PySem.W.nsIn K mainGlobals "_law_right" = some (some (.ref f18))) (l18 : K.lookup f18 = some ⟨oc18, od18, .func (PySem.W.fnOf "_law_right" "_law_right" (defArgs s_l_right) (defBody s_l_right) (defScope s_l_right) .none kV18 dc18 pm18 an18 cd18 ct18), sl18⟩)
    (c18 : PySem.W.codeIn K cd18 "_law_right" = true) (k18 : PySem.W.keepIn K (.ref f18) = true)
    (a19 : PySem.W.nsIn K mainGlobals "law" = some (some (.ref f19))) (l19 : K.lookup f19 = some ⟨oc19, od19, .func (PySem.W.fnOf "law" "law" (defArgs s_law) (defBody s_law) (defScope s_law) .none kV19 dc19 pm19 an19 cd19 ct19), sl19⟩)
    (c19 : PySem.W.codeIn K cd19 "law" = true) (k19 : PySem.W.keepIn K (.ref f19) = true)
    (m_MOST : PySem.W.nsIn K mainGlobals "MOST" = some (some (.int 12 t_MOST)))
    (m_GREATEST : PySem.W.nsIn K mainGlobals "GREATEST" = some (some (.int 1000000 t_GREATEST)))
    (m_FEW : PySem.W.nsIn K mainGlobals "FEW" = some (some (.int 5 t_FEW)))
    (m_SMALL : PySem.W.nsIn K mainGlobals "SMALL" = some (some (.int 20 t_SMALL)))
    {C_GlassError C_BadRow C_BadEvening : Addr}
    (aC_GlassError : PySem.W.nsIn K mainGlobals "GlassError" = some (some (.ref C_GlassError)))
    (aC_BadRow : PySem.W.nsIn K mainGlobals "BadRow" = some (some (.ref C_BadRow)))
    (aC_BadEvening : PySem.W.nsIn K mainGlobals "BadEvening" = some (some (.ref C_BadEvening)))
    {cT0 pT0 : Addr} {ocT0 : Value} {odT0 : Option Addr} {vsT0 : Array Value} {slT0 : Array (Option Value)}
    (eT0 : cd18 = .ref cT0) (lT0 : K.lookup cT0 = some ⟨ocT0, odT0, .fields vsT0, slT0⟩) (gT0 : vsT0.getD 11 .none = .ref pT0) (hT0 : PySem.W.codeHdIn K cT0 pT0 = true) (nT0 : K.lookup pT0 = none) (zT0 : h.get? pT0 = some (PySem.W.tabObj #[]))
    (xB : PySem.W.excIn K C_BadRow [.type "ValueError", .type "Exception", .type "BaseException", .type "object"] "ValueError.__new__" = true)
    (kB : PySem.W.keepIn K (.ref C_BadRow) = true)
    (bB : PySem.W.subIn K (.ref C_BadRow) (.type "BaseException") = some true)
    (tB : PySem.W.typeIn K (.ref C_BadRow) = some (.type "type"))
    (agB : PySem.W.findIn K (.ref C_BadRow) "__getattribute__" = some (some (.builtin "BaseException.__getattribute__")))
    (akB : PySem.W.findIn K (.ref C_BadRow) "__getattr__" = some none)
    (adB : PySem.W.hasDictIn K C_BadRow = true)
    (aaB : PySem.W.findIn K (.ref C_BadRow) "__class__" = some (some (.builtin "object.__class__")))
    (amB : PySem.W.mroIn K C_BadRow (.type "object") = some true)
    (sGB : PySem.W.subIn K (.ref C_BadRow) (.ref C_GlassError) = some true)
    (sVB : PySem.W.subIn K (.ref C_BadRow) (.type "ValueError") = some true)
    (icB : PySem.W.isClsIn K C_BadRow = true)
    (sBB : PySem.W.subIn K (.ref C_BadRow) (.ref C_BadRow) = some true)
    (sBE : PySem.W.subIn K (.ref C_BadRow) (.ref C_BadEvening) = some false)
    (xE : PySem.W.excIn K C_BadEvening [.type "ValueError", .type "Exception", .type "BaseException", .type "object"] "ValueError.__new__" = true)
    (kE : PySem.W.keepIn K (.ref C_BadEvening) = true)
    (bE : PySem.W.subIn K (.ref C_BadEvening) (.type "BaseException") = some true)
    (tE : PySem.W.typeIn K (.ref C_BadEvening) = some (.type "type"))
    (agE : PySem.W.findIn K (.ref C_BadEvening) "__getattribute__" = some (some (.builtin "BaseException.__getattribute__")))
    (akE : PySem.W.findIn K (.ref C_BadEvening) "__getattr__" = some none)
    (adE : PySem.W.hasDictIn K C_BadEvening = true)
    (aaE : PySem.W.findIn K (.ref C_BadEvening) "__class__" = some (some (.builtin "object.__class__")))
    (amE : PySem.W.mroIn K C_BadEvening (.type "object") = some true)
    (sGE : PySem.W.subIn K (.ref C_BadEvening) (.ref C_GlassError) = some true)
    (sVE : PySem.W.subIn K (.ref C_BadEvening) (.type "ValueError") = some true)
    (icE : PySem.W.isClsIn K C_BadEvening = true)
    (sEB : PySem.W.subIn K (.ref C_BadEvening) (.ref C_BadRow) = some false)
    (sEE : PySem.W.subIn K (.ref C_BadEvening) (.ref C_BadEvening) = some true)
    (xn : PySem.W.specialIn K (.builtin "object.__class__") "__get__" = some (some (.builtin "getset_descriptor.__get__")))
    (xt : PySem.W.takesIn K (.builtin "object.__class__") = some true)
    (bG : PySem.W.subIn K (.ref C_GlassError) (.type "BaseException") = some true)
    (dG : PySem.W.hasDictIn K C_GlassError = true)
    (tG : PySem.W.typeIn K (.ref C_GlassError) = some (.type "type"))
    (zV : PySem.W.nsIn K mainGlobals "ValueError" = some none)
    (z0 : PySem.W.nsIn K mainGlobals "isinstance" = some none) (z1 : PySem.W.nsIn K mainGlobals "int" = some none) (z2 : PySem.W.nsIn K mainGlobals "bool" = some none) (z3 : PySem.W.nsIn K mainGlobals "list" = some none) (z4 : PySem.W.nsIn K mainGlobals "len" = some none) (z5 : PySem.W.nsIn K mainGlobals "all" = some none) (z6 : PySem.W.nsIn K mainGlobals "range" = some none) (z7 : PySem.W.nsIn K mainGlobals "enumerate" = some none) (z8 : PySem.W.nsIn K mainGlobals "tuple" = some none) (z9 : PySem.W.nsIn K mainGlobals "min" = some none) (z10 : PySem.W.nsIn K mainGlobals "max" = some none) (z11 : PySem.W.nsIn K mainGlobals "sorted" = some none) (z12 : PySem.W.nsIn K mainGlobals "sum" = some none) (z13 : PySem.W.nsIn K mainGlobals "set" = some none) (z14 : PySem.W.nsIn K mainGlobals "any" = some none) :
    LamX.LawAtS l w K CX0 8 63 "_law_script" mg fa h := by
  have e := hfa.symm.trans (PySem.W.mg_of X G a19)
  cases e
  have F_is_whole := fun_mk (st := s_is_whole) l0 c0 k0
  have F_check_row := fun_mk (st := s_check_row) l1 c1 k1
  have F_evenings_of := fun_mk (st := s_evenings_of) l2 c2 k2
  have F_behind := fun_mk (st := s_behind) l3 c3 k3
  have F_evenings := fun_mk (st := s_evenings) l4 c4 k4
  have F_settled := fun_mk (st := s_settled) l5 c5 k5
  have F_check_evening := fun_mk (st := s_check_evening) l6 c6 k6
  have F_evened := fun_mk (st := s_evened) l7 c7 k7
  have F_fall := fun_mk (st := s_fall) l8 c8 k8
  have F_alike := fun_mk (st := s_alike) l9 c9 k9
  have F_fewest_most := fun_mk (st := s_fewest_most) l10 c10 k10
  have F_ends := fun_mk (st := s_ends) l11 c11 k11
  have F_l_cell_at := fun_mk (st := s_l_cell_at) l12 c12 k12
  have F_l_draw := fun_mk (st := s_l_draw) l13 c13 k13
  have F_l_value := fun_mk (st := s_l_value) l14 c14 k14
  have F_l_kinds := fun_mk (st := s_l_kinds) l15 c15 k15
  have F_l_strange := fun_mk (st := s_l_strange) l16 c16 k16
  have F_l_no_rows := fun_mk (st := s_l_no_rows) l17 c17 k17
  have F_l_right := fun_mk (st := s_l_right) l18 c18 k18
  have F_law := fun_mk (st := s_law) l19 c19 k19
  have b_is_whole := F_is_whole.binds (ps := ["thing"]) fun _ _ _ _ _ _ us hl => match us, hl with | [_], _ => rfl
  have b_check_row := F_check_row.binds (ps := ["row", "most", "greatest"]) fun _ _ _ _ _ _ us hl => match us, hl with | [_, _, _], _ => rfl
  have b_evenings_of := F_evenings_of.binds (ps := ["row"]) fun _ _ _ _ _ _ us hl => match us, hl with | [_], _ => rfl
  have b_behind := F_behind.binds (ps := ["row", "evening"]) fun _ _ _ _ _ _ us hl => match us, hl with | [_, _], _ => rfl
  have b_evenings := F_evenings.binds (ps := ["row"]) fun _ _ _ _ _ _ us hl => match us, hl with | [_], _ => rfl
  have b_settled := F_settled.binds (ps := ["row"]) fun _ _ _ _ _ _ us hl => match us, hl with | [_], _ => rfl
  have b_check_evening := F_check_evening.binds (ps := ["row", "evening"]) fun _ _ _ _ _ _ us hl => match us, hl with | [_, _], _ => rfl
  have b_evened := F_evened.binds (ps := ["row", "evening"]) fun _ _ _ _ _ _ us hl => match us, hl with | [_, _], _ => rfl
  have b_fall := F_fall.binds (ps := ["row", "evening"]) fun _ _ _ _ _ _ us hl => match us, hl with | [_, _], _ => rfl
  have b_alike := F_alike.binds (ps := ["row"]) fun _ _ _ _ _ _ us hl => match us, hl with | [_], _ => rfl
  have b_fewest_most := F_fewest_most.binds (ps := ["row"]) fun _ _ _ _ _ _ us hl => match us, hl with | [_], _ => rfl
  have b_ends := F_ends.binds (ps := ["row"]) fun _ _ _ _ _ _ us hl => match us, hl with | [_], _ => rfl
  have b_l_cell_at := F_l_cell_at.binds (ps := ["_law_script", "_law_k"]) fun _ _ _ _ _ _ us hl => match us, hl with | [_, _], _ => rfl
  have b_l_draw := F_l_draw.binds (ps := ["_law_cell", "_law_k", "_law_many"]) fun _ _ _ _ _ _ us hl => match us, hl with | [_, _, _], _ => rfl
  have b_l_value := F_l_value.binds (ps := ["_law_cell", "_law_turn"]) fun _ _ _ _ _ _ us hl => match us, hl with | [_, _], _ => rfl
  have b_l_kinds := F_l_kinds.binds (ps := ["_law_ask"]) fun _ _ _ _ _ _ us hl => match us, hl with | [_], _ => rfl
  have b_l_strange := F_l_strange.binds (ps := ["_law_far"]) fun _ _ _ _ _ _ us hl => match us, hl with | [_], _ => rfl
  have b_l_no_rows := F_l_no_rows.binds (ps := ["_law_far", "_law_most", "_law_greatest"]) fun _ _ _ _ _ _ us hl => match us, hl with | [_, _, _], _ => rfl
  have b_l_right := F_l_right.binds (ps := ["_law_far"]) fun _ _ _ _ _ _ us hl => match us, hl with | [_], _ => rfl
  have g_MOST := PySem.W.mg_of X G m_MOST
  have g_GREATEST := PySem.W.mg_of X G m_GREATEST
  have g_FEW := PySem.W.mg_of X G m_FEW
  have g_SMALL := PySem.W.mg_of X G m_SMALL
  have g_GlassError := PySem.W.mg_of X G aC_GlassError
  have g_BadRow := PySem.W.mg_of X G aC_BadRow
  have g_BadEvening := PySem.W.mg_of X G aC_BadEvening
  have B : Blt mg := ⟨PySem.W.mg_none_of X G z0, PySem.W.mg_none_of X G z1, PySem.W.mg_none_of X G z2, PySem.W.mg_none_of X G z3, PySem.W.mg_none_of X G z4, PySem.W.mg_none_of X G z5, PySem.W.mg_none_of X G z6, PySem.W.mg_none_of X G z7, PySem.W.mg_none_of X G z8, PySem.W.mg_none_of X G z9, PySem.W.mg_none_of X G z10, PySem.W.mg_none_of X G z11, PySem.W.mg_none_of X G z12, PySem.W.mg_none_of X G z13, PySem.W.mg_none_of X G z14⟩
  have mT0 : (pT0, lamQ "_law_right") ∈ ([(pT0, lamQ "_law_right")] : List (Addr × Str)) := List.mem_cons_self
  have uT0 : ∀ p ∈ ([(pT0, lamQ "_law_right")] : List (Addr × Str)), p.1 = pT0 → p.2 = lamQ "_law_right" := (List.forall_mem_cons.mpr ⟨(fun _ => rfl), (fun _ hz => nomatch hz)⟩)
  refine ⟨PySem.W.fnOf "law" "law" (defArgs s_law) (defBody s_law) (defScope s_law) .none kV19 dc19 pm19 an19 cd19 ct19, [(cT0, pT0)], sp_law K [(pT0, lamQ "_law_right")], (List.forall_mem_cons.mpr ⟨zT0, (fun _ hz => nomatch hz)⟩), (List.forall_mem_cons.mpr ⟨nT0, (fun _ hz => nomatch hz)⟩), (List.forall_mem_cons.mpr ⟨(PySem.W.codeHd_of_K X hT0), (fun _ hz => nomatch hz)⟩), fun s v => .of_eq rfl, fun H a ns h1 h2 h3 h4 => ⟨a, ns, rfl, h4, h1, h2, (List.forall_mem_cons.mpr ⟨(LamX.TabS.nil (h3 _ List.mem_cons_self)), (fun _ hz => nomatch hz)⟩), fun _ => rfl⟩, fun base _ _ hTB => ?_⟩
  have bT0 : LamX.TabB base mg cT0 pT0 := hTB _ List.mem_cons_self
  have XB : XcF K C_BadRow := ⟨xB, kB, bB, tB⟩
  have XE : XcF K C_BadEvening := ⟨xE, kE, bE, tE⟩
  have KD : KdF K C_BadRow C_BadEvening C_GlassError := ⟨⟨agB, akB, bB, adB, aaB, xn, xt, amB⟩, ⟨agE, akE, bE, adE, aaE, xn, xt, amE⟩, PySem.W.exm_ref bG dG tG sGB, PySem.W.exm_ref bG dG tG sGE, kit_mk icB tB sBB sBB, kit_mk icE tE sBE sEE, kit_mk icB tB sEB sBB, kit_mk icE tE sEE sEE, kit_bi (by decide) sVB, kit_bi (by decide) sVE⟩
  have c_is_whole : Cal CX0 l.prog w K mg base "is_whole" ["thing"] 1 (sp_is_whole K) := ⟨_, _, ok_is_whole F_is_whole B, PySem.W.mg_of X G a0, F_is_whole.kp, b_is_whole⟩
  have c_check_row : Cal (L2.CX l.prog w) l.prog w K mg base "check_row" ["row", "most", "greatest"] 2 (sp_check_rowX K C_BadRow) := ⟨_, _, ok_check_rowX F_check_row B g_BadRow XB c_is_whole, PySem.W.mg_of X G a1, F_check_row.kp, b_check_row⟩
  have c_evenings_of : Cal CX0 l.prog w K mg base "evenings_of" ["row"] 1 (sp_evenings_of K) := ⟨_, _, ok_evenings_of F_evenings_of B, PySem.W.mg_of X G a2, F_evenings_of.kp, b_evenings_of⟩
  have c_behind : Cal CX0 l.prog w K mg base "behind" ["row", "evening"] 1 (sp_behind K) := ⟨_, _, ok_behind F_behind B, PySem.W.mg_of X G a3, F_behind.kp, b_behind⟩
  have c_evenings : Cal (L2.CX l.prog w) l.prog w K mg base "evenings" ["row"] 3 (sp_badX K C_BadRow 12 1000000) := ⟨_, _, ok_eveningsX F_evenings c_check_row g_MOST g_GREATEST, PySem.W.mg_of X G a4, F_evenings.kp, b_evenings⟩
  have c_settled : Cal (L2.CX l.prog w) l.prog w K mg base "settled" ["row"] 3 (sp_settledX K C_BadRow) := ⟨_, _, ok_settledX F_settled c_check_row c_evenings_of g_MOST g_GREATEST, PySem.W.mg_of X G a5, F_settled.kp, b_settled⟩
  have c_check_evening : Cal (L2.CX l.prog w) l.prog w K mg base "check_evening" ["row", "evening"] 3 (sp_check_eveningX K C_BadRow C_BadEvening) := ⟨_, _, ok_check_eveningX F_check_evening B g_BadEvening XE c_is_whole c_check_row c_evenings_of g_MOST g_GREATEST, PySem.W.mg_of X G a6, F_check_evening.kp, b_check_evening⟩
  have c_evened : Cal (L2.CX l.prog w) l.prog w K mg base "evened" ["row", "evening"] 4 (sp_evenedX K C_BadRow C_BadEvening) := ⟨_, _, ok_evenedX F_evened c_check_evening c_behind, PySem.W.mg_of X G a7, F_evened.kp, b_evened⟩
  have c_fall : Cal (L2.CX l.prog w) l.prog w K mg base "fall" ["row", "evening"] 4 (sp_fallX K C_BadRow C_BadEvening) := ⟨_, _, ok_fallX F_fall c_check_evening, PySem.W.mg_of X G a8, F_fall.kp, b_fall⟩
  have c_alike : Cal (L2.CX l.prog w) l.prog w K mg base "alike" ["row"] 3 (sp_badX K C_BadRow 5 20) := ⟨_, _, ok_aliX F_alike c_check_row g_FEW g_SMALL, PySem.W.mg_of X G a9, F_alike.kp, b_alike⟩
  have c_fewest_most : Cal (L2.CX l.prog w) l.prog w K mg base "fewest_most" ["row"] 3 (sp_badX K C_BadRow 5 20) := ⟨_, _, ok_fewX F_fewest_most c_check_row g_FEW g_SMALL, PySem.W.mg_of X G a10, F_fewest_most.kp, b_fewest_most⟩
  have c_ends : Cal (L2.CX l.prog w) l.prog w K mg base "ends" ["row"] 3 (sp_endsX K C_BadRow) := ⟨_, _, ok_endsX F_ends B g_FEW g_SMALL c_check_row c_evenings_of c_behind, PySem.W.mg_of X G a11, F_ends.kp, b_ends⟩
  have c_l_cell_at : Cal CX0 l.prog w K mg base "_law_cell_at" ["_law_script", "_law_k"] 1 (sp_cell_at K) := ⟨_, _, ok_cell_at F_l_cell_at B, PySem.W.mg_of X G a12, F_l_cell_at.kp, b_l_cell_at⟩
  have c_l_draw : Cal CX0 l.prog w K mg base "_law_draw" ["_law_cell", "_law_k", "_law_many"] 1 (sp_draw) := ⟨_, _, ok_draw F_l_draw, PySem.W.mg_of X G a13, F_l_draw.kp, b_l_draw⟩
  have c_l_value : Cal CX0 l.prog w K mg base "_law_value" ["_law_cell", "_law_turn"] 2 (sp_value) := ⟨_, _, ok_value F_l_value c_l_draw, PySem.W.mg_of X G a14, F_l_value.kp, b_l_value⟩
  have c_l_strange : Cal CX0 l.prog w K mg base "_law_strange" ["_law_far"] 1 (sp_strange K) := ⟨_, _, ok_strange F_l_strange B, PySem.W.mg_of X G a16, F_l_strange.kp, b_l_strange⟩
  have c_l_no_rows : Cal CX0 l.prog w K mg base "_law_no_rows" ["_law_far", "_law_most", "_law_greatest"] 2 (sp_no_rows K) := ⟨_, _, ok_no_rows F_l_no_rows B c_l_strange, PySem.W.mg_of X G a17, F_l_no_rows.kp, b_l_no_rows⟩
  have q_evenings := PySem.W.mg_of X G a4
  have q_settled := PySem.W.mg_of X G a5
  have q_alike := PySem.W.mg_of X G a9
  have q_ends := PySem.W.mg_of X G a11
  have q_fewest_most := PySem.W.mg_of X G a10
  have q_evened := PySem.W.mg_of X G a7
  have q_fall := PySem.W.mg_of X G a8
  have A1 : ∀ f sp, S1 K C_BadRow f4 f5 f9 f11 f10 f sp → HeldX l.prog w K mg base 4 f sp := fun f sp h => by
    rcases h with ⟨rfl, rfl⟩ | ⟨rfl, rfl⟩ | ⟨rfl, rfl⟩ | ⟨rfl, rfl⟩ | ⟨rfl, rfl⟩
    · exact c_evenings.held q_evenings (by decide)
    · exact c_settled.held q_settled (by decide)
    · exact c_alike.held q_alike (by decide)
    · exact c_ends.held q_ends (by decide)
    · exact c_fewest_most.held q_fewest_most (by decide)
  have A2 : ∀ f sp, S2 K C_BadRow C_BadEvening f7 f8 f sp → HeldX l.prog w K mg base 4 f sp := fun f sp h => by
    rcases h with ⟨rfl, rfl⟩ | ⟨rfl, rfl⟩
    · exact c_evened.held q_evened (by decide)
    · exact c_fall.held q_fall (by decide)
  have c_l_right : Cal CX0 l.prog w K mg base "_law_right" ["_law_far"] 7 (sp_right [(pT0, lamQ "_law_right")]) := ⟨_, _, ok_right F_l_right eT0 B bT0 mT0 uT0 g_BadRow g_BadEvening g_GlassError (PySem.W.mg_none_of X G zV) KD F_l_kinds (PySem.W.mg_of X G a15) b_l_kinds q_evenings q_settled q_evened q_fall q_alike q_ends q_fewest_most A1 A2 c_l_no_rows c_l_strange, PySem.W.mg_of X G a18, F_l_right.kp, b_l_right⟩
  exact ok_law F_law B c_l_right c_l_value c_l_cell_at c_evened c_fall c_settled c_ends
end EG
open PySem PySem.W PyProof.Rows
set_option maxHeartbeats 0 in
theorem PySem.Challenge.cw_evenglasses_k05_refused_holds : PySem.Challenge.rw_evenglasses_k05_refused.Holds := by
  w_on; o_law; k_head; (case hw => w_witness2)
  k_fill
  refine LamX.walk_ofTs (l := PySem.Challenge.rw_evenglasses_k05_refused) (n := 63) (k := 8) (x := "_law_script") (CX := fun _ => L2.CX0) rfl (by decide) rfl ⟨rfl, by decide, by decide⟩ (fun w h Y => PySem.W.km_in_of Y) ?F (fun _ _ _ _ _ h => h)
  case F =>
    intro w mg fa h Y KX G hmg
    have hT8 := PySem.W.km_tabs_of Y
    refine' EG.all_mk KX G hmg ?a0 ?l0 ?c0 ?k0 ?a1 ?l1 ?c1 ?k1 ?a2 ?l2 ?c2 ?k2 ?a3 ?l3 ?c3 ?k3 ?a4 ?l4 ?c4 ?k4 ?a5 ?l5 ?c5 ?k5 ?a6 ?l6 ?c6 ?k6 ?a7 ?l7 ?c7 ?k7 ?a8 ?l8 ?c8 ?k8 ?a9 ?l9 ?c9 ?k9 ?a10 ?l10 ?c10 ?k10 ?a11 ?l11 ?c11 ?k11 ?a12 ?l12 ?c12 ?k12 ?a13 ?l13 ?c13 ?k13 ?a14 ?l14 ?c14 ?k14 ?a15 ?l15 ?c15 ?k15 ?a16 ?l16 ?c16 ?k16 ?a17 ?l17 ?c17 ?k17 ?a18 ?l18 ?c18 ?k18 ?a19 ?l19 ?c19 ?k19 ?m_MOST ?m_GREATEST ?m_FEW ?m_SMALL ?aC_GlassError ?aC_BadRow ?aC_BadEvening ?eT0 ?lT0 ?gT0 ?hT0 ?nT0 ?zT0 ?xB ?kB ?bB ?tB ?agB ?akB ?adB ?aaB ?amB ?sGB ?sVB ?icB ?sBB ?sBE ?xE ?kE ?bE ?tE ?agE ?akE ?adE ?aaE ?amE ?sGE ?sVE ?icE ?sEB ?sEE ?xn ?xt ?bG ?dG ?tG ?zV ?z0 ?z1 ?z2 ?z3 ?z4 ?z5 ?z6 ?z7 ?z8 ?z9 ?z10 ?z11 ?z12 ?z13 ?z14
    (case a0 => k_is); (case l0 => k_is); (case c0 => k_is); (case k0 => k_is); (case a1 => k_is); (case l1 => k_is)
    (case c1 => k_is); (case k1 => k_is); (case a2 => k_is); (case l2 => k_is); (case c2 => k_is); (case k2 => k_is)
    (case a3 => k_is); (case l3 => k_is); (case c3 => k_is); (case k3 => k_is); (case a4 => k_is); (case l4 => k_is)
    (case c4 => k_is); (case k4 => k_is); (case a5 => k_is); (case l5 => k_is); (case c5 => k_is); (case k5 => k_is)
    (case a6 => k_is); (case l6 => k_is); (case c6 => k_is); (case k6 => k_is); (case a7 => k_is); (case l7 => k_is)
    (case c7 => k_is); (case k7 => k_is); (case a8 => k_is); (case l8 => k_is); (case c8 => k_is); (case k8 => k_is)
    (case a9 => k_is); (case l9 => k_is); (case c9 => k_is); (case k9 => k_is); (case a10 => k_is); (case l10 => k_is)
    (case c10 => k_is); (case k10 => k_is); (case a11 => k_is); (case l11 => k_is); (case c11 => k_is); (case k11 => k_is)
    (case a12 => k_is); (case l12 => k_is); (case c12 => k_is); (case k12 => k_is); (case a13 => k_is); (case l13 => k_is)
    (case c13 => k_is); (case k13 => k_is); (case a14 => k_is); (case l14 => k_is); (case c14 => k_is); (case k14 => k_is)
    (case a15 => k_is); (case l15 => k_is); (case c15 => k_is); (case k15 => k_is); (case a16 => k_is); (case l16 => k_is)
    (case c16 => k_is); (case k16 => k_is); (case a17 => k_is); (case l17 => k_is); (case c17 => k_is); (case k17 => k_is)
    (case a18 => k_is); (case l18 => k_is); (case c18 => k_is); (case k18 => k_is); (case a19 => k_is); (case l19 => k_is)
    (case c19 => k_is); (case k19 => k_is); (case m_MOST => k_is); (case m_GREATEST => k_is); (case m_FEW => k_is); (case m_SMALL => k_is)
    (case aC_GlassError => k_is); (case aC_BadRow => k_is); (case aC_BadEvening => k_is); (case eT0 => exact rfl); (case lT0 => k_is); (case gT0 => exact rfl)
    (case hT0 => exact by kernel_rfl); (case nT0 => exact by kernel_rfl); (case zT0 => exact hT8 _ (by k_mem)); (case xB => k_exc); (case kB => k_is); (case bB => k_is)
    (case tB => k_is); (case agB => k_is); (case akB => k_is); (case adB => k_is); (case aaB => k_is); (case amB => k_is)
    (case sGB => k_is); (case sVB => k_is); (case icB => k_is); (case sBB => k_is); (case sBE => k_is); (case xE => k_exc)
    (case kE => k_is); (case bE => k_is); (case tE => k_is); (case agE => k_is); (case akE => k_is); (case adE => k_is)
    (case aaE => k_is); (case amE => k_is); (case sGE => k_is); (case sVE => k_is); (case icE => k_is); (case sEB => k_is)
    (case sEE => k_is); (case xn => k_is); (case xt => k_is); (case bG => k_is); (case dG => k_is); (case tG => k_is)
    (case zV => k_is); (case z0 => k_is); (case z1 => k_is); (case z2 => k_is); (case z3 => k_is); (case z4 => k_is)
    (case z5 => k_is); (case z6 => k_is); (case z7 => k_is); (case z8 => k_is); (case z9 => k_is); (case z10 => k_is)
    (case z11 => k_is); (case z12 => k_is); (case z13 => k_is); (case z14 => k_is)
