import PyProof.Rows.All
import Wide.All
import OpenK.AllK
import Wide.FinOn
import HandS.ForMost
import HandS.Exc
import HandS.TryOnly
import HandS.ExcOwn
import HandS.WordsExc
import HandS.Sort
import HandS.SortOrd
import HandS.SortRule
import HandS.Deep
import HandS.IsInst
import HandS.Style
import HandS.Wide
import HandS.TupLen
import HandS.EndBits
import KE.IntBitsLaws
import PyProof.Rows.SetFrom
import PyProof.Rows.RegSetDedup
import KE.SortData
import KE.KDictDisplayH
import PyProof.DictRoadsH
import HandS.CallRecv
import PySem.Challenge.RW_evenglasses_k02_whole_alike
set_option Elab.async false
set_option maxRecDepth 100000
set_option maxHeartbeats 4000000
/-! Rows, their evenings, the row behind one: plain Lean. -/
namespace EG
abbrev Pr := Int × Int
def goodP (ns : List Int) (i j : Nat) : Bool := !decide (ns.getD i 0 = ns.getD j 0) && decide ((ns.getD i 0 + ns.getD j 0) % 2 = 0)
/-- the pairs (i, j), j the first k places behind i -/
def evI (ns : List Int) (i k : Nat) : List Pr := ((List.range' (i + 1) k).filter (goodP ns i)).map fun (j : Nat) => ((i : Int), (j : Int))
def evN (ns : List Int) (m : Nat) : List Pr := (List.range m).flatMap fun i => evI ns i (ns.length - (i + 1))
def evs (ns : List Int) : List Pr := evN ns ns.length
/-- the same by the greater place -/
def cnO (ns : List Int) (j k : Nat) : List Pr := ((List.range k).filter fun i => goodP ns i j).map fun (i : Nat) => ((i : Int), (j : Int))
def cnN (ns : List Int) (m : Nat) : List Pr := (List.range m).flatMap fun j => cnO ns j j

theorem evI_succ (ns : List Int) (i k : Nat) : evI ns i (k + 1) = evI ns i k ++ if goodP ns i (i + 1 + k) = true then [((i : Int), ((i + 1 + k : Nat) : Int))] else [] := by
  unfold evI
  rw [List.range'_concat, List.filter_append, List.map_append]
  by_cases h : goodP ns i (i + 1 + 1 * k) = true
  · rw [show i + 1 + k = i + 1 + 1 * k by omega, if_pos h, List.filter_cons_of_pos h]; rfl
  · rw [show i + 1 + k = i + 1 + 1 * k by omega, if_neg h, List.filter_cons_of_neg h]; rfl
theorem evN_succ (ns : List Int) (m : Nat) : evN ns (m + 1) = evN ns m ++ evI ns m (ns.length - (m + 1)) := by
  unfold evN
  rw [List.range_succ, List.flatMap_append, List.flatMap_singleton]
theorem cnO_succ (ns : List Int) (j k : Nat) : cnO ns j (k + 1) = cnO ns j k ++ if goodP ns k j = true then [((k : Int), (j : Int))] else [] := by
  unfold cnO
  rw [List.range_succ, List.filter_append, List.map_append]
  by_cases h : goodP ns k j = true
  · rw [if_pos h, List.filter_cons_of_pos (p := fun i => goodP ns i j) h]; rfl
  · rw [if_neg h, List.filter_cons_of_neg (p := fun i => goodP ns i j) h]; rfl
theorem cnN_succ (ns : List Int) (m : Nat) : cnN ns (m + 1) = cnN ns m ++ cnO ns m m := by
  unfold cnN
  rw [List.range_succ, List.flatMap_append, List.flatMap_singleton]

/-- an evening that can be -/
def IsEv (ns : List Int) (p : Pr) : Prop := ∃ i j : Nat, p = ((i : Int), (j : Int)) ∧ i < j ∧ j < ns.length ∧ goodP ns i j = true
theorem mem_evs {ns : List Int} {p : Pr} : p ∈ evs ns ↔ IsEv ns p := by
  unfold evs evN evI IsEv
  simp only [List.mem_flatMap, List.mem_range, List.mem_map, List.mem_filter, List.mem_range'_1]
  constructor
  · rintro ⟨i, hi, j, ⟨⟨h1, h2⟩, hg⟩, rfl⟩
    exact ⟨i, j, rfl, by omega, by omega, hg⟩
  · rintro ⟨i, j, rfl, h1, h2, hg⟩
    exact ⟨i, by omega, j, ⟨⟨by omega, by omega⟩, hg⟩, rfl⟩
theorem mem_cn {ns : List Int} {p : Pr} : p ∈ cnN ns ns.length ↔ IsEv ns p := by
  unfold cnN cnO IsEv
  simp only [List.mem_flatMap, List.mem_range, List.mem_map, List.mem_filter]
  constructor
  · rintro ⟨j, hj, i, ⟨h1, hg⟩, rfl⟩
    exact ⟨i, j, rfl, h1, hj, hg⟩
  · rintro ⟨i, j, rfl, h1, h2, hg⟩
    exact ⟨j, h2, i, ⟨h1, hg⟩, rfl⟩
/-- the order of pairs -/
def ltPr (p q : Pr) : Prop := p.1 < q.1 ∨ (p.1 = q.1 ∧ p.2 < q.2)
theorem evI_sorted (ns : List Int) (i k : Nat) : (evI ns i k).Pairwise ltPr := by
  unfold evI
  rw [List.pairwise_map]
  refine List.Pairwise.filter _ ?_
  refine (List.pairwise_lt_range' (s := i + 1) (n := k)).imp ?_
  intro a b h
  exact .inr ⟨rfl, by show (a : Int) < (b : Int); omega⟩
theorem mem_evI {ns : List Int} {i k : Nat} {p : Pr} (h : p ∈ evI ns i k) : p.1 = (i : Int) := by
  unfold evI at h
  obtain ⟨j, _, rfl⟩ := List.mem_map.mp h
  rfl
theorem evN_sorted (ns : List Int) : ∀ m, (evN ns m).Pairwise ltPr
  | 0 => List.Pairwise.nil
  | m + 1 => by
    rw [evN_succ, List.pairwise_append]
    refine ⟨evN_sorted ns m, evI_sorted _ _ _, fun p hp q hq => ?_⟩
    unfold evN at hp
    obtain ⟨i, hi, hp⟩ := List.mem_flatMap.mp hp
    have h1 := mem_evI hp
    have h2 := mem_evI hq
    have h3 := List.mem_range.mp hi
    exact .inl (by rw [h1, h2]; omega)
theorem evs_sorted (ns : List Int) : (evs ns).Pairwise ltPr := evN_sorted ns _
theorem ltPr_irrefl (p : Pr) : ¬ ltPr p p := by rintro (h | h) <;> omega
theorem evs_nodup (ns : List Int) : (evs ns).Nodup := List.Pairwise.imp (R := ltPr) (fun {a b} h (e : a = b) => ltPr_irrefl a (by rw [← e] at h; exact h)) (evs_sorted ns)
theorem cnN_nodup (ns : List Int) : ∀ m, (cnN ns m).Nodup
  | 0 => List.nodup_nil
  | m + 1 => by
    rw [cnN_succ, List.nodup_append]
    refine ⟨cnN_nodup ns m, ?_, fun p hp q hq e => ?_⟩
    · unfold cnO
      refine List.Pairwise.map _ ?_ (List.Pairwise.filter _ List.nodup_range)
      intro a b h e
      exact h (by have := (Prod.mk.inj e).1; omega)
    · unfold cnN at hp
      obtain ⟨j, hj, hp⟩ := List.mem_flatMap.mp hp
      unfold cnO at hp hq
      obtain ⟨a, _, rfl⟩ := List.mem_map.mp hp
      obtain ⟨b, _, rfl⟩ := List.mem_map.mp hq
      have := List.mem_range.mp hj
      have := (Prod.mk.inj e).2
      omega
theorem cn_perm (ns : List Int) : (cnN ns ns.length).Perm (evs ns) :=
  (List.perm_ext_iff_of_nodup (cnN_nodup ns _) (evs_nodup ns)).mpr fun p => by rw [mem_cn, mem_evs]
/-- a sorted rearrangement of the evenings is their list -/
theorem evs_uniq {ns : List Int} {l : List Pr} (hp : l.Perm (cnN ns ns.length)) (hs : l.Pairwise fun p q => ¬ ltPr q p) : l = evs ns := by
  refine List.Perm.eq_of_pairwise (le := fun p q => ¬ ltPr q p) ?_ hs ?_ (hp.trans (cn_perm ns))
  · intro a b _ _ h1 h2
    unfold ltPr at h1 h2
    have e1 : a.1 = b.1 := by omega
    have e2 : a.2 = b.2 := by omega
    exact Prod.ext e1 e2
  · exact (evs_sorted ns).imp fun {a b} h h' => by
      unfold ltPr at h h'
      omega

/-- the row behind the evening of the places i, j -/
def half (ns : List Int) (i j : Nat) : Int := (ns.getD i 0 + ns.getD j 0) / 2
def beh (ns : List Int) (i j : Nat) : List Int := (List.range ns.length).map fun k => if k = i ∨ k = j then half ns i j else ns.getD k 0
theorem beh_length (ns : List Int) (i j : Nat) : (beh ns i j).length = ns.length := by unfold beh; rw [List.length_map, List.length_range]
theorem beh_get (ns : List Int) (i j k : Nat) (h : k < ns.length) : (beh ns i j)[k]? = some (if k = i ∨ k = j then half ns i j else ns.getD k 0) := by
  unfold beh
  rw [List.getElem?_map, List.getElem?_range h]; rfl
theorem beh_set (ns : List Int) (i j : Nat) : (ns.set i (half ns i j)).set j (half ns i j) = beh ns i j := by
  apply List.ext_getElem?
  intro k
  by_cases h : k < ns.length
  · rw [beh_get ns i j k h, List.getElem?_set, List.getElem?_set]
    have e : ns[k]? = some (ns.getD k 0) := by rw [List.getElem?_eq_getElem h, List.getD_eq_getElem?_getD, List.getElem?_eq_getElem h]; rfl
    rw [e]
    simp only [List.length_set, h]
    by_cases h1 : j = k
    · subst h1; simp [h]
    · by_cases h2 : i = k
      · subst h2
        simp [h1, h]
      · have h3 : ¬ k = i := fun z => h2 z.symm
        have h4 : ¬ k = j := fun z => h1 z.symm
        simp [h1, h2, h3, h4]
  · rw [List.getElem?_eq_none (by rw [List.length_set, List.length_set]; omega), List.getElem?_eq_none (by rw [beh_length]; omega)]
end EG

/-! The text by places: law_k02_whole_alike. -/
namespace EG
open PySem L2
def topS (i : Nat) : Stmt := PySem.Challenge.pw_evenglasses_k02_whole_alike.main.body.getD i (.Pass ⟨0, 0, 0, 0⟩)
abbrev s_GlassError : Stmt := topS 1
abbrev s_BadRow : Stmt := topS 2
abbrev s_is_whole : Stmt := topS 4
theorem sc_is_whole : FnScope ["thing"] ["thing"] (defScope s_is_whole) := ⟨rfl, rfl, rfl, by decide +kernel, rfl, by decide +kernel, by decide +kernel⟩
abbrev s_check_row : Stmt := topS 5
theorem sc_check_row : FnScope ["row", "most", "greatest", "one"] ["row", "most", "greatest"] (defScope s_check_row) := ⟨rfl, rfl, rfl, by decide +kernel, rfl, by decide +kernel, by decide +kernel⟩
abbrev s_evenings_of : Stmt := topS 6
theorem sc_evenings_of : FnScope ["row", "found", "one", "other"] ["row"] (defScope s_evenings_of) := ⟨rfl, rfl, rfl, by decide +kernel, rfl, by decide +kernel, by decide +kernel⟩
abbrev s_behind : Stmt := topS 7
theorem sc_behind : FnScope ["row", "evening", "one", "other", "half", "place", "number"] ["row", "evening"] (defScope s_behind) := ⟨rfl, rfl, rfl, by decide +kernel, rfl, by decide +kernel, by decide +kernel⟩
abbrev s_Answer : Stmt := topS 9
abbrev s_row_behind : Stmt := topS 10
theorem sc_row_behind : FnScope ["row", "some", "evening"] ["row", "some"] (defScope s_row_behind) := ⟨rfl, rfl, rfl, by decide +kernel, rfl, by decide +kernel, by decide +kernel⟩
abbrev s_are_alike : Stmt := topS 11
theorem sc_are_alike : FnScope ["row"] ["row"] (defScope s_are_alike) := ⟨rfl, rfl, rfl, by decide +kernel, rfl, by decide +kernel, by decide +kernel⟩
abbrev s_way_to_alike : Stmt := topS 12
theorem sc_way_to_alike : FnScope ["row", "line", "met", "longer", "here", "gone", "evening", "there"] ["row"] (defScope s_way_to_alike) := ⟨rfl, rfl, rfl, by decide +kernel, rfl, by decide +kernel, by decide +kernel⟩
abbrev s_Alike : Stmt := topS 13
abbrev s_Alike_init : Stmt := inClass (topS 13) 0
theorem sc_Alike_init : FnScope ["self", "evenings"] ["self", "evenings"] (defScope s_Alike_init) := ⟨rfl, rfl, rfl, by decide +kernel, rfl, by decide +kernel, by decide +kernel⟩
abbrev s_Alike_shows : Stmt := inClass (topS 13) 1
theorem sc_Alike_shows : FnScope ["self", "row"] ["self", "row"] (defScope s_Alike_shows) := ⟨rfl, rfl, rfl, by decide +kernel, rfl, by decide +kernel, by decide +kernel⟩
abbrev s_Never : Stmt := topS 14
abbrev s_Never_shows : Stmt := inClass (topS 14) 0
theorem sc_Never_shows : FnScope ["self", "row"] ["self", "row"] (defScope s_Never_shows) := ⟨rfl, rfl, rfl, by decide +kernel, rfl, by decide +kernel, by decide +kernel⟩
abbrev s_alike : Stmt := topS 18
theorem sc_alike : FnScope ["row", "found"] ["row"] (defScope s_alike) := ⟨rfl, rfl, rfl, by decide +kernel, rfl, by decide +kernel, by decide +kernel⟩
abbrev s_l_cell_at : Stmt := topS 20
theorem sc_l_cell_at : FnScope ["_law_script", "_law_k"] ["_law_script", "_law_k"] (defScope s_l_cell_at) := ⟨rfl, rfl, rfl, by decide +kernel, rfl, by decide +kernel, by decide +kernel⟩
abbrev s_l_draw : Stmt := topS 21
theorem sc_l_draw : FnScope ["_law_cell", "_law_k", "_law_many", "_law_primes"] ["_law_cell", "_law_k", "_law_many"] (defScope s_l_draw) := ⟨rfl, rfl, rfl, by decide +kernel, rfl, by decide +kernel, by decide +kernel⟩
abbrev s_l_value : Stmt := topS 22
theorem sc_l_value : FnScope ["_law_cell", "_law_turn", "_law_mixed"] ["_law_cell", "_law_turn"] (defScope s_l_value) := ⟨rfl, rfl, rfl, by decide +kernel, rfl, by decide +kernel, by decide +kernel⟩
abbrev s_l_says : Stmt := topS 23
theorem sc_l_says : FnScope ["_law_said", "_law_due_here"] ["_law_said", "_law_due_here"] (defScope s_l_says) := ⟨rfl, rfl, rfl, by decide +kernel, rfl, by decide +kernel, by decide +kernel⟩
abbrev n_says : List Str := ["_law_said", "_law_due_here"]
abbrev s_l_row : Stmt := topS 24
theorem sc_l_row : FnScope ["_law_script", "_law_by", "_law_most", "_law_greatest", "_law_cell", "_law_wide", "_law_step", "_law_found", "_law_at", "_law_number"] ["_law_script", "_law_by", "_law_most", "_law_greatest"] (defScope s_l_row) := ⟨rfl, rfl, rfl, by decide +kernel, rfl, by decide +kernel, by decide +kernel⟩
abbrev s_l_can : Stmt := topS 25
theorem sc_l_can : FnScope ["_law_row_here", "_law_found", "_law_other", "_law_one"] ["_law_row_here"] (defScope s_l_can) := ⟨rfl, rfl, rfl, by decide +kernel, rfl, by decide +kernel, by decide +kernel⟩
abbrev s_l_evened : Stmt := topS 26
theorem sc_l_evened : FnScope ["_law_row_here", "_law_pair", "_law_found"] ["_law_row_here", "_law_pair"] (defScope s_l_evened) := ⟨rfl, rfl, rfl, by decide +kernel, rfl, by decide +kernel, by decide +kernel⟩
abbrev s_l_levels : Stmt := topS 27
theorem sc_l_levels : FnScope ["_law_row_here", "_law_levels_here", "_law_line", "_law_more", "_law_some", "_law_pair"] ["_law_row_here"] (defScope s_l_levels) := ⟨rfl, rfl, rfl, by decide +kernel, rfl, by decide +kernel, by decide +kernel⟩
abbrev s_l_walked : Stmt := topS 28
theorem sc_l_walked : FnScope ["_law_row_here", "_law_pairs", "_law_pair"] ["_law_row_here", "_law_pairs"] (defScope s_l_walked) := ⟨rfl, rfl, rfl, by decide +kernel, rfl, by decide +kernel, by decide +kernel⟩
abbrev s_l_fewest : Stmt := topS 29
theorem sc_l_fewest : FnScope ["_law_row_here", "_law_many", "_law_line", "_law_some"] ["_law_row_here"] (defScope s_l_fewest) := ⟨rfl, rfl, rfl, by decide +kernel, rfl, by decide +kernel, by decide +kernel⟩
abbrev s_l_due : Stmt := topS 30
theorem sc_l_due : FnScope ["_law_row_here", "_law_found", "_law_there"] ["_law_row_here", "_law_found"] (defScope s_l_due) := ⟨rfl, rfl, rfl, by decide +kernel, rfl, by decide +kernel, by decide +kernel⟩
abbrev s_l_right : Stmt := topS 31
theorem sc_l_right : FnScope ["_law_row_here", "_law_others", "_law_handed", "_law_fewest_here", "_law_again", "_law_found", "_law_sorts", "_law_other"] ["_law_row_here", "_law_others"] (defScope s_l_right) := ⟨rfl, rfl, rfl, by decide +kernel, rfl, by decide +kernel, by decide +kernel⟩
abbrev s_law : Stmt := topS 32
theorem sc_law : FnScope ["_law_script", "_law_by", "_law_five", "_law_row_here", "_law_even", "_law_some", "_law_found", "_law_never", "_law_one"] ["_law_script"] (defScope s_law) := ⟨rfl, rfl, rfl, by decide +kernel, rfl, by decide +kernel, by decide +kernel⟩
end EG

/-! Rules of my own over the hand layer, and words about heaps. -/
namespace EG
open PySem PySem.Spec PyProof.Rows L2
section
variable {X : Cx}
/-- a product of ints of any size that the model bears -/
theorem op_mulB : OpR X (binaryOp .Mult) (rI IntMulOk fun i j => .int (i * j)) :=
  opI fun _ _ _ _ _ _ _ hc q => PyProof.Rows.mul_int q hc

/-- readings of len, list, tuple by K -/
abbrev rLenS (K : PySem.W.Frag) : List V → Hp → VK → Prop := fun xs H Q => ∃ p ys, xs = [.ref p] ∧ (SqL K H p ys ∨ SqT K H p ys) ∧ Q (.int ys.length) H
abbrev rListOf (K : PySem.W.Frag) : List V → Hp → VK → Prop := fun xs H Q => ∃ p ys, xs = [.ref p] ∧ (SqL K H p ys ∨ SqT K H p ys) ∧ ∀ l, H l = none → Q (.ref l) (upd H l (.lst ys))
abbrev rTupOf (K : PySem.W.Frag) : List V → Hp → VK → Prop := fun xs H Q => ∃ p ys, xs = [.ref p] ∧ ((SqL K H p ys ∧ ∀ l, H l = none → Q (.ref l) (upd H l (.tup ys))) ∨ (SqT K H p ys ∧ Q (.ref p) H))
/-! ### xs[::k]: some of its items -/
theorem vals_pick {xs : List V} {its : List Value} (r : Vals xs its) : ∀ idx : List Nat, Vals (idx.filterMap (xs[·]?)) (idx.filterMap (its.toArray[·]?))
  | [] => .nil
  | i :: idx => by
    have ih := vals_pick r idx
    cases e : xs[i]? with
    | none =>
      have e2 := r.none_of e
      rw [List.filterMap_cons_none e, List.filterMap_cons_none (by simpa using e2)]
      exact ih
    | some x =>
      obtain ⟨u, e2, ru⟩ := r.get e
      rw [List.filterMap_cons_some e, List.filterMap_cons_some (by simpa using e2)]
      exact .cons ru ih
def tStep (K : PySem.W.Frag) (te : TE) (ts : TO) : TE := fun σ H Q => te σ H fun x H1 => ts σ H1 fun o H2 =>
  ∃ (a : Addr) (xs : List V) (k : Int), x = .ref a ∧ o = some k ∧ k ≠ 0 ∧ SqL K H2 a xs ∧
    ∀ (p : Addr) (ys : List V), (∀ z ∈ ys, z ∈ xs) → ys.length ≤ xs.length → H2 p = none → Q (.ref p) (upd H2 p (.lst ys))
theorem pe_step {e st : Expr} {te : TE} {ts : TO} {p3 pos : Pos} (he : PE X e te) (hst : PO X (some st) ts) :
    PE X (.Subscript e (.Slice none none (some st) p3) pos) (tStep X.K te ts) := by
  refine ⟨fun pins s σ H Q I h => ?_⟩
  refine PyProof.Rows.Subscript_ (thn (he.run pins s σ H _ I h) fun v sA ⟨x, HA, IA, rA, qA⟩ => ?_)
  refine wpAny_Slice (thn (po_none.run pins sA σ HA (fun o Ho => o = none ∧ Ho = HA) IA ⟨rfl, rfl⟩) fun vl sB ⟨l, HB, IB, pl, el, eB⟩ => ?_)
  subst el eB
  refine thn (po_none.run pins sB σ HB (fun o Ho => o = none ∧ Ho = HB) IB ⟨rfl, rfl⟩) fun vu sC ⟨u, HC, IC, pu, eu, eC⟩ => ?_
  subst eu eC
  refine thn (hst.run pins sC σ HC _ IC qA) fun vs sD ⟨o, HD, ID, ps, qD⟩ => ?_
  obtain ⟨a, xs, k, ex, eo, k0, hx, q⟩ := qD
  subst ex eo
  cases rA
  have IE : Inv X pins σ HD { sD with heap := sD.heap.push { cls := .type "slice", data := .fields #[vl, vu, vs] } } := ID.kept (t' := sD.toks) fun b ob z => Heap.get?_push_of_some _ z
  obtain ⟨its, r, ht, hz⟩ := IE.list hx
  have hlen := r.length
  show wpAny (model X.prog X.w) X.A (subscriptTail e (.Slice none none (some st) p3) (.ref a) (.ref sD.heap.objs.size)) (EP X pins σ Q) X.xe { sD with heap := sD.heap.push { cls := .type "slice", data := .fields #[vl, vu, vs] } }
  refine tail_any (ops := [.ref a, .ref sD.heap.objs.size]) ht.isList.typeIs (PySem.slot_list_getitem.lookup) ?_ (by with_unfolding_all rfl)
  refine wpAny_getItem_list_slice ht.isList (Heap.IsSliceOf.new _ vl vu vs) pl pu ps (fun z => k0 (Option.some.inj z)) ?_ (by rw [List.size_toArray]; omega)
  have lenL := slicePick_size_le its.toArray none none (some k)
  obtain ⟨idx, ei⟩ : ∃ idx : List Nat, slicePick its.toArray none none (some k) = (idx.filterMap (its.toArray[·]?)).toArray := ⟨_, rfl⟩
  rw [ei] at lenL ⊢
  have rp := vals_pick r idx
  have lp := rp.length
  rw [List.size_toArray, List.size_toArray, ← lp, ← hlen] at lenL
  refine ⟨.ref _, _, IE.laid (t' := sD.toks) (o := .lst (idx.filterMap (xs[·]?))) (fun b ob z => Heap.get?_push_of_some _ z) (Nat.le_refl _) ?_, rfl, q _ _ (fun z hzm => ?_) lenL (IE.hok.fresh (Nat.le_refl _))⟩
  · exact ⟨by omega, _, 0, rp, Heap.get?_push_size _ rfl⟩
  · obtain ⟨i, _, e⟩ := List.mem_filterMap.mp hzm
    exact List.mem_of_getElem? e

/-! ### len(set(xs)), xs a list of ints -/
def dcount (ns : List Int) : Nat := (PyProof.Rows.firstMet (fun i => ns.getD i 0) ns.length).length
def tLenSetG (K : PySem.W.Frag) (ta : TE) : TE := fun σ H Q => ta σ H fun x H1 =>
  ∃ (l : Addr) (ns : List Int), x = .ref l ∧ SqL K H1 l (ns.map V.int) ∧ ns.length ≤ 4000 ∧ Q (.int (dcount ns : Nat)) H1
theorem pe_lenSetG {a : Expr} {ta : TE} {p p2 q pos : Pos} (hg : Gl X "len") (hm : X.mg "len" = none) (hg2 : Gl X "set") (hm2 : X.mg "set" = none) (ha : PE X a ta) (hc : X.calm = true := by rfl)
    (na : starEach [a] X.env = (false, eval a X.env) :: starEach [] X.env := by rfl) :
    PE X (.Call (.Name "len" p) [.Call (.Name "set" p2) [a] [] q] [] pos) (tLenSetG X.K ta) := by
  refine ⟨fun pins s σ H Q I h => ?_⟩
  refine PyProof.Rows.Call_ (ld_blt I hg hm boot_len (PyProof.Rows.callWith_builtin1 (PyProof.Rows.args_cons ?_ rfl) rfl rfl))
  refine PyProof.Rows.Call_ (ld_blt I hg2 hm2 PyProof.Rows.boot_set (PyProof.Rows.callWith_type1 ?_ na rfl))
  refine PyProof.Rows.args_cons (thn (ha.run pins s σ H _ I h) fun v sA ⟨x, HA, IA, rA, qA⟩ => PyProof.Rows.args_nil ?_) na
  obtain ⟨l, ns, rfl, hq, hl, qA⟩ := qA
  cases rA
  obtain ⟨its, r, pl, hz⟩ := IA.list hq
  have hlen : its.toArray.size = ns.length := by rw [List.size_toArray, ← r.length, List.length_map]
  refine call_set_list (IA.ok.hd hc) pl.isList (by simpa using intsAre_of r) (by rw [hlen]; unfold scanBound; omega) fun hB tk hS hk => ?_
  refine PyProof.Rows.args_nil ?_
  rw [hlen] at hS
  have dle : dcount ns ≤ ns.length := PyProof.Rows.firstMet_length_le _ _
  obtain ⟨o, es, ep, t, ho, hex, hd, _, _, _, hf, hn⟩ := hS
  have IB : Inv X pins σ HA { sA with heap := hB, toks := tk } := IA.kept fun b o e => hk b o (Heap.lt_size e) e
  have hn2 : es.size = dcount ns := hn
  exact call_len_set ho hex hd hf (by rw [hn2]; omega) ⟨.int (dcount ns : Nat), HA, IB.tok _, ⟨_, by rw [hn2]⟩, qA⟩
end

/-! ### a def of the text that keeps a promise, as its callers use it -/
def Cal (CX : CXT) (P : Program) (w : World) (K : PySem.W.Frag) (mg : Str → Option Value) (base : Heap) (x : Str) (ps : List Str) (k : Nat) (sp : Sp) : Prop :=
  ∃ (f : Addr) (fd : FuncData), FnOk P w K mg base CX k f fd ps sp ∧ mg x = some (.ref f) ∧ PySem.W.keepIn K (.ref f) = true ∧ Binds K fd ps []
section
variable {X : Cx} {x : Str} {ps : List Str} {j k : Nat} {sp : Sp} {e : Expr} {es : List Expr} {t : TA} {p pos : Pos}
theorem pe_calX {CX : CXT} {E : XK} (c : Cal CX X.prog X.w X.K X.mg X.base x ps j sp) (hr : Room k X.A) (hx : Passes CX X E) (hg : Gl X x) (ha : PA X (e :: es) t) (hj : j ≤ k := by decide) (hdb : (x == ("__debug__" : Str)) = false := by decide)
    (he : starEach (e :: es) X.env = (false, eval e X.env) :: starEach es X.env := by rfl) (hpl : (backTo pos (starEach es X.env)).any (·.1) = false := by rfl) :
    PE X (.Call (.Name x p) (e :: es) [] pos) (tCall sp [] E t) := by
  obtain ⟨f, fd, F, gf, kf, bf⟩ := c
  exact pe_call F (hr.mono hj) hg gf kf bf .nil hx ha hdb he hpl
theorem pe_cal (c : Cal CX0 X.prog X.w X.K X.mg X.base x ps j sp) (hr : Room k X.A) (hg : Gl X x) (ha : PA X (e :: es) t) (hj : j ≤ k := by decide) (hdb : (x == ("__debug__" : Str)) = false := by decide)
    (he : starEach (e :: es) X.env = (false, eval e X.env) :: starEach es X.env := by rfl) (hpl : (backTo pos (starEach es X.env)).any (·.1) = false := by rfl) :
    PE X (.Call (.Name x p) (e :: es) [] pos) (tCall sp [] E0 t) := pe_calX c hr pass0 hg ha hj hdb he hpl
end

/-! ### pairs of ints -/
def IsP (H : Hp) (v : V) (p : Pr) : Prop := ∃ t, v = .ref t ∧ H t = some (.tup [.int p.1, .int p.2])
abbrev Prs (H : Hp) : List V → List Pr → Prop := Paired (IsP H)
/-- the tuples stand as before -/
def TupS (H H' : Hp) : Prop := ∀ b xs, H b = some (.tup xs) → H' b = some (.tup xs)
theorem TupS.refl (H : Hp) : TupS H H := fun _ _ h => h
theorem TupS.trans {H H1 H2 : Hp} (a : TupS H H1) (b : TupS H1 H2) : TupS H H2 := fun c xs h => b c xs (a c xs h)
theorem Same.tups {H H' : Hp} (s : Same H H') : TupS H H' := fun b xs h => s b _ h
theorem same_new {H : Hp} {p : Addr} {o : HO} (h : H p = none) : Same H (upd H p o) := fun b x e => by
  rw [upd_ne (ne_of_none e h)]; exact e
theorem tups_lst {H : Hp} {p : Addr} {xs : List V} {o : HO} (h : H p = some (.lst xs)) : TupS H (upd H p o) := fun b ys e => by
  rw [upd_ne (ne_of e h (by intro z; cases z))]; exact e
theorem IsP.mono {H H' : Hp} (s : TupS H H') {v : V} {p : Pr} (h : IsP H v p) : IsP H' v p := by
  obtain ⟨t, e, h⟩ := h
  exact ⟨t, e, s t _ h⟩
theorem Prs.mono {H H' : Hp} (s : TupS H H') {vs : List V} {ps : List Pr} (h : Prs H vs ps) : Prs H' vs ps := Paired.mapP h fun _ _ q => q.mono s
theorem Prs.length {H : Hp} {vs : List V} {ps : List Pr} (h : Prs H vs ps) : vs.length = ps.length := Paired.length h
theorem prs_app {H : Hp} : ∀ {vs ws : List V} {ps qs : List Pr}, Prs H vs ps → Prs H ws qs → Prs H (vs ++ ws) (ps ++ qs)
  | _, _, _, _, .nil, h => h
  | _, _, _, _, .cons r t, h => .cons r (prs_app t h)
theorem prs_at {H : Hp} : ∀ {vs : List V} {ps : List Pr} {i : Nat} {v : V}, Prs H vs ps → vs[i]? = some v → ∃ p, ps[i]? = some p ∧ IsP H v p
  | _, _, _, _, .nil, e => by simp at e
  | _, _, 0, _, .cons r _, e => by simp at e; subst e; exact ⟨_, rfl, r⟩
  | _, _, i + 1, v, .cons _ t, e => by
    obtain ⟨p, h1, h2⟩ := prs_at (i := i) (v := v) t (by simpa using e)
    exact ⟨p, by simpa using h1, h2⟩
theorem prs_mem {H : Hp} {vs : List V} {ps : List Pr} {v : V} (h : Prs H vs ps) (hv : v ∈ vs) : ∃ p, p ∈ ps ∧ IsP H v p := by
  obtain ⟨i, e⟩ := List.mem_iff_getElem?.mp hv
  obtain ⟨p, h1, h2⟩ := prs_at h e
  exact ⟨p, List.mem_of_getElem? h1, h2⟩

/-! ### as data -/
def prD (p : Pr) : PyData := .tuple [.int p.1, .int p.2]
def prsD (ps : List Pr) : PyData := .list (ps.map prD)
def rowD (ns : List Int) : PyData := .list (ns.map PyData.int)
section
variable {K : PySem.W.Frag} {H : Hp}
theorem dp_pr {v : V} {p : Pr} (h : IsP H v p) : Dp K H v (prD p) := by
  obtain ⟨t, rfl, h⟩ := h
  exact .tup (SqT.of h) (.cons (.int _) (.cons (.int _) .nil))
theorem dp_prT {a : Addr} {p : Pr} (h : SqT K H a [.int p.1, .int p.2]) : Dp K H (.ref a) (prD p) := .tup h (.cons (.int _) (.cons (.int _) .nil))
theorem dpa_prs : ∀ {vs : List V} {ps : List Pr}, Prs H vs ps → DpAll K H vs (ps.map prD)
  | _, _, .nil => .nil
  | _, _, .cons r t => .cons (dp_pr r) (dpa_prs t)
theorem dp_prs {a : Addr} {vs : List V} {ps : List Pr} (h : SqL K H a vs) (r : Prs H vs ps) : Dp K H (.ref a) (prsD ps) := .lst h (dpa_prs r)
theorem dpa_ints : ∀ ns : List Int, DpAll K H (ns.map V.int) (ns.map PyData.int)
  | [] => .nil
  | n :: ns => .cons (.int n) (dpa_ints ns)
theorem dp_row {a : Addr} {ns : List Int} (h : SqL K H a (ns.map V.int)) : Dp K H (.ref a) (rowD ns) := .lst h (dpa_ints ns)
end
theorem eqv_pr (p q : Pr) : PyData.eqv (prD p) (prD q) = decide (p = q) := by
  obtain ⟨a, b⟩ := p
  obtain ⟨c, d⟩ := q
  simp only [prD, PyData.eqv, PyData.eqvAll, Prod.mk.injEq, Bool.and_true]
  rw [Bool.decide_and]
  rfl
theorem eqv_prs : ∀ ps qs : List Pr, PyData.eqv (prsD ps) (prsD qs) = decide (ps = qs)
  | [], [] => by simp [prsD, PyData.eqv, PyData.eqvAll]
  | [], _ :: _ => by simp [prsD, PyData.eqv, PyData.eqvAll]
  | _ :: _, [] => by simp [prsD, PyData.eqv, PyData.eqvAll]
  | p :: ps, q :: qs => by
    have ih := eqv_prs ps qs
    simp only [prsD, PyData.eqv] at ih
    simp only [prsD, PyData.eqv, PyData.eqvAll, List.map_cons, eqv_pr, ih, List.cons.injEq]
    rw [Bool.decide_and]
theorem eqv_row : ∀ ns ms : List Int, PyData.eqv (rowD ns) (rowD ms) = decide (ns = ms)
  | [], [] => by simp [rowD, PyData.eqv, PyData.eqvAll]
  | [], _ :: _ => by simp [rowD, PyData.eqv, PyData.eqvAll]
  | _ :: _, [] => by simp [rowD, PyData.eqv, PyData.eqvAll]
  | n :: ns, m :: ms => by
    have ih := eqv_row ns ms
    simp only [rowD, PyData.eqv] at ih
    simp only [rowD, PyData.eqv, PyData.eqvAll, List.map_cons, ih, List.cons.injEq]
    rw [Bool.decide_and]
    rfl
theorem depth_pr (p : Pr) : (prD p).depth = 1 := by simp [prD, PyData.depth, PyData.depthAll]
theorem lay_prs : ∀ ps : List Pr, PyData.canLayAll0 (ps.map prD) = true ∧ PyData.depthAll (ps.map prD) ≤ 1
  | [] => by simp [PyData.canLayAll0, PyData.depthAll]
  | p :: ps => by
    have ih := lay_prs ps
    have h := depth_pr p
    refine ⟨by simp [PyData.canLayAll0, ih.1, prD, PyData.canLay0], ?_⟩
    simp only [List.map_cons, PyData.depthAll]
    omega
theorem lay_ints : ∀ ns : List Int, PyData.canLayAll0 (ns.map PyData.int) = true ∧ PyData.depthAll (ns.map PyData.int) = 0
  | [] => by simp [PyData.canLayAll0, PyData.depthAll]
  | n :: ns => by
    have ih := lay_ints ns
    refine ⟨by simp [PyData.canLayAll0, ih.1, PyData.canLay0], ?_⟩
    simp only [List.map_cons, PyData.depthAll, PyData.depth, ih.2]
    decide
theorem shaped_pr (p : Pr) : SeqAt.shaped (prD p) = true := by
  unfold SeqAt.shaped
  rw [depth_pr, Bool.and_eq_true]
  exact ⟨by simp [prD, PyData.canLay0, PyData.canLayAll0], by decide⟩
theorem shaped_prs (ps : List Pr) : SeqAt.shaped (prsD ps) = true := by
  have h := lay_prs ps
  unfold SeqAt.shaped
  rw [Bool.and_eq_true]
  refine ⟨by simp only [prsD, PyData.canLay0]; exact h.1, decide_eq_true ?_⟩
  simp only [prsD, PyData.depth]
  omega
theorem shaped_row (ns : List Int) : SeqAt.shaped (rowD ns) = true := by
  have h := lay_ints ns
  unfold SeqAt.shaped
  rw [Bool.and_eq_true]
  refine ⟨by simp only [rowD, PyData.canLay0]; exact h.1, decide_eq_true ?_⟩
  simp only [rowD, PyData.depth]
  omega
theorem any_prs (p : Pr) (ps : List Pr) : ((ps.map prD).any fun z => PyData.eqv z (prD p)) = decide (p ∈ ps) := by
  induction ps with
  | nil => simp
  | cons q ps ih =>
    rw [List.map_cons, List.any_cons, ih, eqv_pr]
    by_cases h : q = p
    · subst h; simp
    · have h2 : ¬ p = q := fun z => h z.symm
      simp [h, h2]
end EG

/-! The program's own functions: what each answers. -/
namespace EG
open PySem L2
theorem itP {c A B : Prop} [Decidable c] (h : c) (x : A) : if c then A else B := by rw [if_pos h]; exact x
theorem itN {c A B : Prop} [Decidable c] (h : ¬ c) (x : B) : if c then A else B := by rw [if_neg h]; exact x
theorem room65 {k : Nat} {A : Around} (r : Room k A) : A.units + 65 < cLine := by have := r.un; omega
theorem dec_int (a b : Int) : decide (V.int a = V.int b) = decide (a = b) := by
  by_cases h : a = b
  · subst h; simp
  · have h2 : ¬ V.int a = V.int b := fun z => h (V.int.inj z)
    rw [decide_eq_false h, decide_eq_false h2]
/-- a list of ints that may be changed -/
def Lst (H : Hp) (a : Addr) (ns : List Int) : Prop := H a = some (.lst (ns.map V.int))
theorem Lst.sq {K : PySem.W.Frag} {H : Hp} {a : Addr} {ns : List Int} (h : Lst H a ns) : SqL K H a (ns.map V.int) := SqL.of h
theorem Lst.mono {H H' : Hp} {a : Addr} {ns : List Int} (s : Same H H') (h : Lst H a ns) : Lst H' a ns := s _ _ h
theorem row_get {ns : List Int} {i : Nat} (h : i < ns.length) : (ns.map V.int)[i]? = some (.int (ns.getD i 0)) := by
  rw [List.getElem?_map, List.getElem?_eq_getElem h, List.getD_eq_getElem?_getD, List.getElem?_eq_getElem h]; rfl
theorem row_item {ns : List Int} {i : Nat} {x : V} (h : (ns.map V.int)[i]? = some x) : ∃ n, x = .int n ∧ ns[i]? = some n := by
  rw [List.getElem?_map] at h
  cases e : ns[i]? with
  | none => rw [e] at h; cases h
  | some n => rw [e] at h; exact ⟨n, (Option.some.inj h).symm, rfl⟩
/-- is it a number -/
def Whole (K : PySem.W.Frag) (H : Hp) (x : V) (b : Bool) : Prop := ∃ (t : Value) (b1 b2 : Bool), TyX K H x t ∧ PySem.W.kitOne K t (.type "int") = some b1 ∧ (b1 = true → PySem.W.kitOne K t (.type "bool") = some b2) ∧ b = (b1 && !b2)
theorem whole_int {K : PySem.W.Frag} {H : Hp} (i : Int) : Whole K H (.int i) true := ⟨_, true, false, .base (.int i), kit_ty (by decide +kernel), fun _ => kit_ty (by decide +kernel), rfl⟩
def RowOk (ns : List Int) (m g : Int) : Prop := 1 ≤ ns.length ∧ (ns.length : Int) ≤ m ∧ ∀ x ∈ ns, 0 ≤ x ∧ x ≤ g
/-- the built-ins that the program names -/
structure Blt (mg : Str → Option Value) : Prop where
  isi : mg "isinstance" = none
  int : mg "int" = none
  bool : mg "bool" = none
  list : mg "list" = none
  len : mg "len" = none
  all : mg "all" = none
  range : mg "range" = none
  enum : mg "enumerate" = none
  tuple : mg "tuple" = none
  min : mg "min" = none
  max : mg "max" = none
  sorted : mg "sorted" = none
  sum : mg "sum" = none
  set : mg "set" = none
  any : mg "any" = none
theorem Same.seqT {K : PySem.W.Frag} {H H' : Hp} {a : Addr} {xs : List V} (e : Same H H') (h : SqT K H a xs) : SqT K H' a xs := by
  rcases h with (h | ⟨o, h⟩) | h
  · exact .inl (.inl (e _ _ h))
  · exact .inl (.inr ⟨o, e _ _ h⟩)
  · exact .inr h
theorem RowOk.len12 {ns : List Int} {g : Int} (h : RowOk ns 12 g) : ns.length ≤ 12 := by have := h.2.1; omega
theorem evI_len (ns : List Int) (i k : Nat) : (evI ns i k).length ≤ k := by
  unfold evI
  rw [List.length_map]
  exact Nat.le_trans (List.length_filter_le _ _) (by rw [List.length_range']; exact Nat.le_refl _)
theorem evN_len (ns : List Int) : ∀ m, (evN ns m).length ≤ m * ns.length
  | 0 => Nat.zero_le _
  | m + 1 => by
    have ih := evN_len ns m
    have h := evI_len ns m (ns.length - (m + 1))
    rw [evN_succ, List.length_append, Nat.succ_mul]
    omega
theorem evs_len {ns : List Int} (h : ns.length ≤ 12) : (evs ns).length ≤ 144 := Nat.le_trans (evN_len ns _) (Nat.le_trans (Nat.mul_le_mul h h) (by decide))
def behP (ns : List Int) (p : Pr) : List Int := beh ns p.1.toNat p.2.toNat
def fallP (ns : List Int) (p : Pr) : Int := (ns.getD p.1.toNat 0 - ns.getD p.2.toNat 0) * (ns.getD p.1.toNat 0 - ns.getD p.2.toNat 0) / 2
theorem RowOk.getD {ns : List Int} {m g : Int} (h : RowOk ns m g) {i : Nat} (hi : i < ns.length) : 0 ≤ ns.getD i 0 ∧ ns.getD i 0 ≤ g := by
  have e : ns.getD i 0 = ns[i] := by rw [List.getD_eq_getElem?_getD, List.getElem?_eq_getElem hi]; rfl
  rw [e]
  exact h.2.2 _ (List.getElem_mem hi)
end EG

/-! is_whole, check_row. -/
namespace EG
open PySem L2
section
variable {P : Program} {w : World} {K : PySem.W.Frag} {mg : Str → Option Value} {base : Heap}
/-! ### is_whole -/
def sp_is_whole (K : PySem.W.Frag) : Sp := fun vs H Q _ => ∃ (x : V) (b : Bool), vs = [x] ∧ Whole K H x b ∧ Q (.bl b) H
theorem ok_is_whole {f : Addr} {fd : FuncData} (F : Fun K "is_whole" "is_whole" s_is_whole f fd) (B : Blt mg) : FnOk P w K mg base CX0 1 f fd ["thing"] (sp_is_whole K) := by
  refine F.ok sc_is_whole (fun vs H Q E h => ?_) (fun cdv A outer s H vs Q E hr h => ?_)
  · obtain ⟨x, b, rfl, _⟩ := h
    rfl
  · obtain ⟨x, b, rfl, ⟨t, b1, b2, ht, h1, h2, rfl⟩, q⟩ := h
    refine ⟨_, pss_one (ps_ret (pe_and (pe_callB call_isi (by rfl) B.isi PyProof.Rows.boot_isinstance (pa_cons (pv 0) (pa_cons (pe_bltn (v := .ty "int") (by rfl) B.int PyProof.Rows.boot_int rfl) pa_nil)))
      (pe_one (pe_not (pe_callB call_isi (by rfl) B.isi PyProof.Rows.boot_isinstance (pa_cons (pv 0) (pa_cons (pe_bltn (v := .ty "bool") (by rfl) B.bool PyProof.Rows.boot_bool rfl) pa_nil))))))), ?_⟩
    refine ⟨x, rfl, _, _, _, _, b1, rfl, .ty _, ht, h1, b1, rfl, ?_⟩
    cases b1 with
    | false => exact iteF q
    | true => exact iteT ⟨x, rfl, _, _, _, _, b2, rfl, .ty _, ht, h2 rfl, b2, rfl, q⟩
/-! ### check_row, of a row -/
def sp_check_row : Sp := fun vs H Q _ => ∃ (a : Addr) (ns : List Int) (m g : Int), vs = [.ref a, .int m, .int g] ∧ Lst H a ns ∧ ns.length ≤ 900 ∧ RowOk ns m g ∧ ∀ H', Same H H' → Q .non H'
theorem ok_check_row {f : Addr} {fd : FuncData} (F : Fun K "check_row" "check_row" s_check_row f fd) (B : Blt mg) (cW : Cal CX0 P w K mg base "is_whole" ["thing"] 1 (sp_is_whole K)) :
    FnOk P w K mg base CX0 2 f fd ["row", "most", "greatest"] sp_check_row := by
  refine F.ok sc_check_row (fun vs H Q E h => ?_) (fun cdv A outer s H vs Q E hr h => ?_)
  · obtain ⟨a, ns, m, g, rfl, _⟩ := h
    rfl
  · obtain ⟨a, ns, m, g, rfl, hL, hl, ⟨h1, h2, h3⟩, q⟩ := h
    refine ⟨_, pss_cons (ps_if (PW.pt (pw_or (pt_not (pt_val (pe_callB call_isi (by rfl) B.isi PyProof.Rows.boot_isinstance (pa_cons (pv 0) (pa_cons (pe_bltn (v := .ty "list") (by rfl) B.list PyProof.Rows.boot_list rfl) pa_nil)))))
          (pw_or1 (pt_not (pt_chain op_le op_le pe_int (pe_callB call_len_seq (by rfl) B.len PySem.boot_len (pa_cons (pv 0) pa_nil)) (pv 1))))))
        (pss_one ps_never) pss_nil)
      (pss_one (ps_if (pt_not (pt_val (pe_callB (cr_all rfl) (by rfl) B.all PyProof.Rows.boot_all (pa_cons
          (pe_lc (own := [("one", 3)]) (g := gName 3) (tt := tYes) rfl sc_check_row.nd (pi_list (pv 0)) (blkOk_by (N := ["row", "most", "greatest", "one"]) (sc := defScope s_check_row) (by decide +kernel))
            (fun _ _ _ _ _ => pg_name (i := 3) sc_check_row.nd rfl (Or.inl rfl)) (fun _ _ _ _ _ => pts_nil)
            (fun _ _ _ _ _ => pe_and (pe_cal cW hr (by rfl) (pa_cons (pv 3) pa_nil)) (pe_one (pe_chain op_le op_le pe_int (pv 3) (pv 2))))) pa_nil))))
        (pss_one ps_never) pss_nil)), ?_⟩
    refine ⟨.ref a, rfl, _, _, _, _, true, rfl, .ty _, .base (.lst hL), kit_ty (by decide +kernel), true, rfl, iteF ?_⟩
    have e1 : decide ((1 : Int) ≤ ((ns.map V.int).length : Int)) = true := decide_eq_true (by rw [List.length_map]; omega)
    have e2 : decide (((ns.map V.int).length : Int) ≤ m) = true := decide_eq_true (by rw [List.length_map]; omega)
    refine ⟨.ref a, rfl, a, _, rfl, .inl hL.sq, _, _, rfl, rfl, _, rfl, itP e1 ⟨.int m, rfl, _, _, rfl, rfl, _, rfl, itN (by rw [e2]; decide) ?_⟩⟩
    -- the numbers
    refine ⟨.ref a, rfl, a, rfl, ⟨_, hL.sq⟩, fun D hD => lc_list (K := K) (a := a) (xs := ns.map V.int)
      (fun i H' => Same H H' ∧ H' D = some (.lst ((List.replicate i true).map V.bl))) ⟨same_new hD, upd_same⟩ (fun i H' _ h => (hL.mono h.1).sq) (fun i x H' hx h => ?_) (fun H' h => ?_)⟩
    · obtain ⟨n, rfl, hn⟩ := row_item hx
      have hil := (List.getElem?_eq_some_iff.mp hn).1
      obtain ⟨h5, h6⟩ := h3 n (List.mem_of_getElem? hn)
      refine ⟨rfl, iteT (B := True) ⟨.int n, rfl, _, true, rfl, whole_int n, true, rfl, iteT ⟨.int n, rfl, _, _, rfl, rfl, _, rfl, itP (decide_eq_true h5) ⟨.int g, rfl, _, _, rfl, rfl, ?_⟩⟩⟩⟩
      refine ⟨_, h.2, small1000 (by rw [List.length_map, List.length_replicate]; omega), ⟨fun b o e => ?_, ?_⟩⟩
      · rw [upd_ne (ne_of_none e hD)]
        exact h.1 b o e
      · have e6 : V.bl (decide (n ≤ g)) = V.bl true := by rw [decide_eq_true h6]
        rw [upd_same, List.replicate_succ', List.map_append]
        exact congrArg (fun z => some (HO.lst (_ ++ [z]))) e6
    · refine ⟨D, List.replicate ns.length true, rfl, SqL.of (by rw [h.2, List.length_map]), _, rfl, itN (by simp) (q H' h.1)⟩
end
end EG

/-! evenings_of, behind. -/
namespace EG
open PySem L2
section
variable {P : Program} {w : World} {K : PySem.W.Frag} {mg : Str → Option Value} {base : Heap}
/-! ### evenings_of -/
def sp_evenings_of (K : PySem.W.Frag) : Sp := fun vs H Q _ => ∃ (a : Addr) (ns : List Int), vs = [.ref a] ∧ SqL K H a (ns.map V.int) ∧ ns.length ≤ 12 ∧
  ∀ H' p ws, Same H H' → H p = none → H' p = some (.lst ws) → Prs H' ws (evs ns) → Q (.ref p) H'
theorem ok_evenings_of {f : Addr} {fd : FuncData} (F : Fun K "evenings_of" "evenings_of" s_evenings_of f fd) (B : Blt mg) : FnOk P w K mg base CX0 1 f fd ["row"] (sp_evenings_of K) := by
  refine F.ok sc_evenings_of (fun vs H Q E h => ?_) (fun cdv A outer s H vs Q E hr h => ?_)
  · obtain ⟨a, ns, rfl, _⟩ := h
    rfl
  · obtain ⟨a, ns, rfl, hS, hl, q⟩ := h
    refine ⟨_, pss_cons (ps_set (i := 1) sc_evenings_of.nd rfl (.inl rfl) (pe_lst pa_nil))
      (pss_cons (ps_for PassesOwn.never rfl (pi_range1 (by rfl) B.range (pa_cons (pe_callB call_len_seq (by rfl) B.len PySem.boot_len (pa_cons (pv 0) pa_nil)) pa_nil)) (pg_name (i := 2) sc_evenings_of.nd rfl (.inl rfl))
        (pss_one (ps_for PassesOwn.never rfl (pi_range2 (by rfl) B.range (pa_cons (pe_op op_add (pv 2) pe_int) (pa_cons (pe_callB call_len_seq (by rfl) B.len PySem.boot_len (pa_cons (pv 0) pa_nil)) pa_nil))) (pg_name (i := 3) sc_evenings_of.nd rfl (.inl rfl))
          (pss_one (ps_if (PW.pt (pw_and (pt_cmpR op_ne (pe_ix ix_list (pv 0) (pv 2) (fun _ _ => rfl)) (pe_ix ix_list (pv 0) (pv 3) (fun _ _ => rfl)) (nomark _))
              (pw_and1 (pt_cmpR op_eq (pe_op op_mod (pe_op op_add (pe_ix ix_list (pv 0) (pv 2) (fun _ _ => rfl)) (pe_ix ix_list (pv 0) (pv 3) (fun _ _ => rfl))) pe_int) pe_int (nomark _)))))
            (pss_one (ps_expr (pe_bm PySem.F.plainAttrs_list PySem.F.slot_list_append PySem.F.type_list_append mt_append (pv 1) (pa_cons (pe_tup (pa_cons (pv 2) (pa_cons (pv 3) pa_nil))) pa_nil))))
            pss_nil)))))
      (pss_one (ps_ret (pv 1)))), ?_⟩
    refine ⟨Nat.zero_le _, fun o ho => ?_⟩
    have s0 : Same H (upd H o (.lst [])) := same_new ho
    have en : (((ns.map V.int).length : Int)).toNat = ns.length := by rw [List.length_map]; omega
    refine ⟨.ref a, rfl, a, _, rfl, .inl (s0.seq hS), _, rfl, by rw [List.length_map]; omega, by rw [List.length_map]; omega, for_range
      (fun i σ H' => ∃ y2 y3 ws, σ = [some (.ref a), some (.ref o), y2, y3] ∧ Same H H' ∧ H' o = some (.lst ws) ∧ Prs H' ws (evN ns i))
      ⟨none, none, [], rfl, s0, upd_same, .nil⟩ (fun i σ H1 hi h => ?_) (fun σ H1 h => ?_)⟩
    · obtain ⟨y2, y3, ws, rfl, s1, h1, r1⟩ := h
      rw [en] at hi
      have ei : (((ns.map V.int).length : Int) - (0 + (i : Int) + 1)).toNat = ns.length - (i + 1) := by rw [List.length_map]; omega
      refine ⟨.int (0 + (i : Int)), rfl, _, _, rfl, rfl, .ref a, rfl, a, _, rfl, .inl (s1.seq hS), _, _, rfl, ⟨by omega, by omega, by rw [List.length_map]; omega, by rw [List.length_map]; omega⟩, for_range
        (fun k σ H' => ∃ y3 ws, σ = [some (.ref a), some (.ref o), some (.int (0 + (i : Int))), y3] ∧ Same H H' ∧ H' o = some (.lst ws) ∧ Prs H' ws (evN ns i ++ evI ns i k))
        ⟨y3, ws, rfl, s1, h1, by simpa [evI] using r1⟩ (fun k σ H2 hk h => ?_) (fun σ H2 h => ?_)⟩
      · obtain ⟨y4, ws, rfl, s2, h2, r2⟩ := h
        rw [ei] at hk
        have hA := s2.seq hS
        have hj : i + 1 + k < ns.length := by omega
        have g1 : atI (ns.map V.int) (0 + (i : Int)) = some (.int (ns.getD i 0)) := at_of (by omega) (row_get hi)
        have g2 : atI (ns.map V.int) (0 + (i : Int) + 1 + (k : Int)) = some (.int (ns.getD (i + 1 + k) 0)) := at_of (j := i + 1 + k) (by omega) (row_get hj)
        have hlen : ws.length < sizeLine := by
          rw [r2.length, List.length_append]
          have l1 := evN_len ns i
          have l2 := evI_len ns i k
          have l3 : i * ns.length ≤ 12 * 12 := Nat.mul_le_mul (by omega) (by omega)
          exact small1000 (by omega)
        refine ⟨.ref a, rfl, .int (0 + (i : Int)), rfl, a, _, _, _, rfl, rfl, hA, g1, .ref a, rfl, .int (0 + (i : Int) + 1 + (k : Int)), rfl, a, _, _, _, rfl, rfl, hA, g2, rfl, _, rfl, ?_⟩
        rw [dec_int]
        by_cases c1 : ns.getD i 0 = ns.getD (i + 1 + k) 0
        · refine itN (by rw [decide_eq_true c1]; decide) (iteF ?_)
          refine ⟨_, ws, rfl, s2, h2, ?_⟩
          rw [evI_succ, if_neg (by unfold goodP; rw [decide_eq_true c1]; simp), List.append_nil]
          exact r2
        · refine itP (by rw [decide_eq_false c1]; rfl) ?_
          refine ⟨.ref a, rfl, .int (0 + (i : Int)), rfl, a, _, _, _, rfl, rfl, hA, g1, .ref a, rfl, .int (0 + (i : Int) + 1 + (k : Int)), rfl, a, _, _, _, rfl, rfl, hA, g2, _, _, rfl, rfl, _, _, rfl, rfl, (by show (0 : Int) < 2; decide), rfl, _, rfl, ?_⟩
          rw [dec_int]
          by_cases c2 : (ns.getD i 0 + ns.getD (i + 1 + k) 0) % 2 = 0
          · refine itP (decide_eq_true c2) ?_
            refine ⟨.ref o, rfl, .inl ⟨rfl, _, SqL.of h2⟩, .int (0 + (i : Int)), rfl, .int (0 + (i : Int) + 1 + (k : Int)), rfl, (by show 2 ≤ sizeLine; decide), fun t ht => ?_⟩
            have st : Same H2 (upd H2 t (.tup [.int (0 + (i : Int)), .int (0 + (i : Int) + 1 + (k : Int))])) := same_new ht
            refine ⟨o, ws, _, rfl, rfl, st _ _ h2, hlen, ?_⟩
            have sT : TupS H2 (upd (upd H2 t (.tup [.int (0 + (i : Int)), .int (0 + (i : Int) + 1 + (k : Int))])) o (.lst (ws ++ [.ref t]))) := (Same.tups st).trans (tups_lst (st _ _ h2))
            refine ⟨_, _, rfl, fun b x e => ?_, upd_same, ?_⟩
            · rw [upd_ne (ne_of_none e ho)]
              exact st _ _ (s2 _ _ e)
            · rw [evI_succ, if_pos (by unfold goodP; rw [decide_eq_false c1, decide_eq_true c2]; rfl), ← List.append_assoc]
              refine prs_app (r2.mono sT) (.cons ⟨t, rfl, ?_⟩ .nil)
              have nt : t ≠ o := (ne_of_none h2 ht).symm
              rw [upd_ne nt, upd_same, show (0 : Int) + (i : Int) = ((i : Nat) : Int) by omega, show ((i : Nat) : Int) + 1 + (k : Int) = ((i + 1 + k : Nat) : Int) by omega]
          · refine itN (by rw [decide_eq_false c2]; decide) ?_
            refine ⟨_, ws, rfl, s2, h2, ?_⟩
            rw [evI_succ, if_neg (by unfold goodP; rw [decide_eq_false c2]; simp), List.append_nil]
            exact r2
      · obtain ⟨y4, ws, rfl, s2, h2, r2⟩ := h
        rw [ei] at r2
        exact ⟨_, _, ws, rfl, s2, h2, by rw [evN_succ]; exact r2⟩
    · obtain ⟨y2, y3, ws, rfl, s1, h1, r1⟩ := h
      rw [en] at r1
      exact ⟨.ref o, rfl, q H1 o ws s1 ho h1 r1⟩
/-! ### behind -/
def sp_behind (K : PySem.W.Frag) : Sp := fun vs H Q _ => ∃ (a e : Addr) (ns : List Int) (i j : Nat), vs = [.ref a, .ref e] ∧ SqL K H a (ns.map V.int) ∧ SqT K H e [.int (i : Int), .int (j : Int)] ∧ i < ns.length ∧ j < ns.length ∧ ns.length ≤ 12 ∧
  ∀ H' p, Same H H' → H p = none → Lst H' p (beh ns i j) → Q (.ref p) H'
theorem ok_behind {f : Addr} {fd : FuncData} (F : Fun K "behind" "behind" s_behind f fd) (B : Blt mg) : FnOk P w K mg base CX0 1 f fd ["row", "evening"] (sp_behind K) := by
  refine F.ok sc_behind (fun vs H Q E h => ?_) (fun cdv A outer s H vs Q E hr h => ?_)
  · obtain ⟨a, e, ns, i, j, rfl, _⟩ := h
    rfl
  · obtain ⟨a, e, ns, i, j, rfl, hS, hT, hi, hj, hl, q⟩ := h
    refine ⟨_, pss_cons (ps_asg (pv 1) (pg_tup rfl (pgs_cons (pg_name (i := 2) sc_behind.nd rfl (.inr rfl)) (pgs_cons (pg_name (i := 3) sc_behind.nd rfl (.inr rfl)) pgs_nil))))
      (pss_cons (ps_set (i := 4) sc_behind.nd rfl (.inr rfl) (pe_op op_fdiv (pe_op op_add (pe_ix ix_list (pv 0) (pv 2) (fun _ _ => rfl)) (pe_ix ix_list (pv 0) (pv 3) (fun _ _ => rfl))) pe_int))
      (pss_one (ps_ret (pe_lc (own := [("place", 5), ("number", 6)]) (g := gTup K 2 (gCons (gName 5) (gCons (gName 6) gNil))) (tt := tYes) rfl sc_behind.nd (pi_enum (by rfl) B.enum (pa_cons (pv 0) pa_nil)) (blkOk_by (N := ["row", "evening", "one", "other", "half", "place", "number"]) (sc := defScope s_behind) (by decide +kernel))
        (fun _ _ _ _ _ => pg_tup rfl (pgs_cons (pg_name (i := 5) sc_behind.nd rfl (.inl rfl)) (pgs_cons (pg_name (i := 6) sc_behind.nd rfl (.inl rfl)) pgs_nil))) (fun _ _ _ _ _ => pts_nil)
        (fun _ _ _ _ _ => pe_ifExp (pt_cmpR (r := rIn K false) op_in_seq (pv 5) (pe_tup (pa_cons (pv 2) (pa_cons (pv 3) pa_nil))) (by rfl)) (pv 4) (pv 6)))))), ?_⟩
    have g1 : atI (ns.map V.int) (i : Int) = some (.int (ns.getD i 0)) := atI_nat (row_get hi)
    have g2 : atI (ns.map V.int) (j : Int) = some (.int (ns.getD j 0)) := atI_nat (row_get hj)
    refine ⟨.ref e, rfl, e, _, rfl, hT, rfl, _, _, rfl, _, _, rfl, rfl, ?_⟩
    refine ⟨.ref a, rfl, .int (i : Int), rfl, a, _, _, _, rfl, rfl, hS, g1, .ref a, rfl, .int (j : Int), rfl, a, _, _, _, rfl, rfl, hS, g2, _, _, rfl, rfl, _, _, rfl, rfl, ⟨by decide, by decide⟩, ?_⟩
    refine ⟨.ref a, rfl, a, _, rfl, hS, fun D hD => ?_⟩
    have s0 : Same H (upd H D (.lst [])) := same_new hD
    refine ⟨fun k m H' => k + m = ns.length ∧ Same H H' ∧ H' D = some (.lst (((beh ns i j).take k).map V.int)), ⟨ns.length, by omega, s0, upd_same⟩, fun k m H1 h => ?_⟩
    obtain ⟨hk, s1, h1⟩ := h
    by_cases hlt : k < ns.length
    · refine .inr ⟨⟨_, _, s1.seq hS, row_get hlt⟩, fun H' => Same H H' ∧ H' D = some (.lst (((beh ns i j).take (k + 1)).map V.int)), fun H' h => ⟨m - 1, by omega, by omega, h.1, h.2⟩, fun x H' hy => ?_⟩
      obtain ⟨T, y, rfl, nT, rfl, fy⟩ := hy
      have ey : y = .int (ns.getD k 0) := Option.some.inj ((fy _ (s1.seq hS)).symm.trans (row_get hlt))
      subst ey
      have s2 : Same H1 (upd H1 T (.tup [.int (k : Nat), .int (ns.getD k 0)])) := same_new nT
      refine ⟨T, _, rfl, SqT.of upd_same, rfl, _, _, rfl, _, _, rfl, rfl, rfl, iteT (B := True) ?_⟩
      refine ⟨.int (k : Nat), rfl, .int (i : Int), rfl, .int (j : Int), rfl, (by show 2 ≤ sizeLine; decide), fun t ht => ?_⟩
      have s3 : Same (upd H1 T (.tup [.int (k : Nat), .int (ns.getD k 0)])) (upd (upd H1 T (.tup [.int (k : Nat), .int (ns.getD k 0)])) t (.tup [.int (i : Int), .int (j : Int)])) := same_new ht
      have s4 := (s1.trans s2).trans s3
      have hD4 := (s2.trans s3) _ _ h1
      have lenD : (((beh ns i j).take k).map V.int).length < sizeLine := by
        rw [List.length_map, List.length_take, beh_length]
        exact small1000 (by omega)
      have eg := beh_get ns i j k hlt
      have fin : ∀ z : V, z = .int (if k = i ∨ k = j then half ns i j else ns.getD k 0) → Same H (upd (upd (upd H1 T (.tup [.int (k : Nat), .int (ns.getD k 0)])) t (.tup [.int (i : Int), .int (j : Int)])) D (.lst (((beh ns i j).take k).map V.int ++ [z]))) ∧
          (upd (upd (upd H1 T (.tup [.int (k : Nat), .int (ns.getD k 0)])) t (.tup [.int (i : Int), .int (j : Int)])) D (.lst (((beh ns i j).take k).map V.int ++ [z]))) D = some (.lst (((beh ns i j).take (k + 1)).map V.int)) := fun z ez => by
        refine ⟨fun b o e => ?_, ?_⟩
        · rw [upd_ne (ne_of_none e hD)]
          exact s4 _ _ e
        · rw [upd_same, List.take_add_one, eg, List.map_append, ez]
          rfl
      refine ⟨t, _, rfl, .inr (SqT.of upd_same), rfl, rfl, _, rfl, ?_⟩
      have ein : (if false = true then !inV (V.int (k : Nat)) [V.int (i : Int), V.int (j : Int)] else inV (V.int (k : Nat)) [V.int (i : Int), V.int (j : Int)]) = decide (k = i ∨ k = j) := by
        rw [if_neg Bool.false_ne_true]
        unfold inV eqV
        simp only [List.any_cons, List.any_nil, Bool.or_false]
        by_cases c1 : k = i
        · subst c1; simp
        · by_cases c2 : k = j
          · subst c2; simp
          · have q1 : ((i : Int) == ((k : Nat) : Int)) = false := beq_eq_false_iff_ne.mpr (by omega)
            have q2 : ((j : Int) == ((k : Nat) : Int)) = false := beq_eq_false_iff_ne.mpr (by omega)
            rw [q1, q2]; simp [c1, c2]
      rw [ein]
      by_cases c : k = i ∨ k = j
      · refine itP (decide_eq_true c) ⟨_, rfl, _, hD4, lenD, fin _ ?_⟩
        rw [if_pos c]
        rfl
      · refine itN (by rw [decide_eq_false c]; decide) ⟨_, rfl, _, hD4, lenD, fin _ ?_⟩
        rw [if_neg c]
    · refine .inl ⟨⟨_, s1.seq hS, by rw [List.length_map]; omega⟩, ?_⟩
      rw [List.take_of_length_le (by rw [beh_length]; omega)] at h1
      exact q H1 D s1 hD h1
end
end EG

/-! Squares, unlike numbers, ranges with a step. -/
namespace EG
open PySem L2
theorem rgC_pos {len c : Int} (h1 : 1 ≤ c) (h2 : c ≤ 1000) (h3 : 0 ≤ len) (h4 : len ≤ 1000) : ∃ n : Nat, RgC 0 len c n ∧ ∀ i : Nat, i < n → (0 : Int) ≤ (i : Int) * c ∧ (i : Int) * c < len := by
  have e := PyProof.Rows.rangeSize_toNat 0 len c
  have l := PyProof.Rows.rangeSize_toNat_le 0 len c
  refine ⟨(Builtin.Range.rangeSize 0 len c).toNat, ⟨by omega, by omega, ?_, e⟩, fun i hi => PyProof.Rows.start_inside h1 h3 (by omega) (by omega)⟩
  unfold Builtin.Range.small
  rw [e]
  simp only [Builtin.Range.rangeFitsLong, Bool.and_eq_true, Bool.or_eq_true, decide_eq_true_eq, beq_iff_eq, show c > 0 by omega, if_true]
  omega
/-- the sum of the squares -/
def sq (ns : List Int) : Int := (ns.map fun x => x * x).sum
theorem map_getD {f : Int → Int} {ns : List Int} {i : Nat} (h : i < ns.length) : (ns.map f)[i]? = some (f (ns.getD i 0)) := by
  rw [List.getElem?_map, List.getElem?_eq_getElem h, List.getD_eq_getElem?_getD, List.getElem?_eq_getElem h]; rfl
theorem sq_beh {ns : List Int} {i j : Nat} (hi : i < ns.length) (hj : j < ns.length) (hij : i ≠ j) :
    sq (beh ns i j) = sq ns - ns.getD i 0 * ns.getD i 0 - ns.getD j 0 * ns.getD j 0 + half ns i j * half ns i j + half ns i j * half ns i j := by
  unfold sq
  rw [← beh_set, List.map_set, List.map_set]
  rw [sum_set (z := ns.getD j 0 * ns.getD j 0), sum_set (map_getD hi)]
  · omega
  · rw [List.getElem?_set_ne hij]
    exact map_getD hj
theorem sum_beh {ns : List Int} {i j : Nat} (hi : i < ns.length) (hj : j < ns.length) (hij : i ≠ j) (h2 : (ns.getD i 0 + ns.getD j 0) % 2 = 0) : (beh ns i j).sum = ns.sum := by
  have g : ∀ k, k < ns.length → ns[k]? = some (ns.getD k 0) := fun k h => by rw [List.getElem?_eq_getElem h, List.getD_eq_getElem?_getD, List.getElem?_eq_getElem h]; rfl
  rw [← beh_set, sum_set (z := ns.getD j 0), sum_set (g i hi)]
  · unfold half; omega
  · rw [List.getElem?_set_ne hij]
    exact g j hj
theorem goodP_iff {ns : List Int} {i j : Nat} : goodP ns i j = true ↔ ns.getD i 0 ≠ ns.getD j 0 ∧ (ns.getD i 0 + ns.getD j 0) % 2 = 0 := by
  unfold goodP
  rw [Bool.and_eq_true, decide_eq_true_eq, Bool.not_eq_true', decide_eq_false_iff_not]
theorem sq_fall {ns : List Int} {p : Pr} (hp : p ∈ evs ns) : fallP ns p = sq ns - sq (behP ns p) ∧ 1 ≤ fallP ns p := by
  obtain ⟨i, j, rfl, hij, hj, hg⟩ := mem_evs.mp hp
  obtain ⟨h1, h2⟩ := goodP_iff.mp hg
  have e : sq (behP ns ((i : Int), (j : Int))) = _ := sq_beh (ns := ns) (i := i) (j := j) (by omega) hj (by omega)
  rw [e]
  show (ns.getD i 0 - ns.getD j 0) * (ns.getD i 0 - ns.getD j 0) / 2 = _ ∧ 1 ≤ (ns.getD i 0 - ns.getD j 0) * (ns.getD i 0 - ns.getD j 0) / 2
  obtain ⟨h, eh⟩ : ∃ h, ns.getD i 0 + ns.getD j 0 = 2 * h := ⟨(ns.getD i 0 + ns.getD j 0) / 2, by omega⟩
  have ehf : half ns i j = h := by unfold half; omega
  rw [ehf]
  generalize ns.getD i 0 = a at *
  generalize ns.getD j 0 = b at *
  have eb : b = 2 * h - a := by omega
  subst eb
  obtain ⟨d, ed⟩ : ∃ d, a = h + d := ⟨a - h, by omega⟩
  subst ed
  have e1 : (h + d - (2 * h - (h + d))) * (h + d - (2 * h - (h + d))) = 2 * (2 * (d * d)) := by
    rw [show h + d - (2 * h - (h + d)) = 2 * d by omega, Int.mul_assoc, Int.mul_left_comm d 2 d]
  have e2 : (h + d) * (h + d) = h * h + 2 * (h * d) + d * d := by
    rw [Int.add_mul, Int.mul_add, Int.mul_add, Int.mul_comm d h]; omega
  have e3 : (2 * h - (h + d)) * (2 * h - (h + d)) = h * h - 2 * (h * d) + d * d := by
    rw [show 2 * h - (h + d) = h - d by omega, Int.sub_mul, Int.mul_sub, Int.mul_sub, Int.mul_comm d h]; omega
  have d0 : d ≠ 0 := by
    intro z; subst z; omega
  have dp : 0 < d * d := by
    rcases Int.lt_or_gt_of_ne d0 with z | z
    · exact Int.mul_pos_of_neg_of_neg z z
    · exact Int.mul_pos z z
  rw [e1, e2, e3]
  omega
theorem RowOk.beh {ns : List Int} {m g : Int} (h : RowOk ns m g) {p : Pr} (hp : p ∈ evs ns) : RowOk (behP ns p) m g := by
  obtain ⟨i, j, rfl, hij, hj, hg⟩ := mem_evs.mp hp
  have a1 := h.getD (i := i) (by omega)
  have a2 := h.getD hj
  refine ⟨by show 1 ≤ (EG.beh ns i j).length; rw [beh_length]; exact h.1, by show ((EG.beh ns i j).length : Int) ≤ m; rw [beh_length]; exact h.2.1, fun x hx => ?_⟩
  obtain ⟨k, hk⟩ := List.mem_iff_getElem?.mp (show x ∈ EG.beh ns i j from hx)
  have hkl : k < ns.length := by
    have := (List.getElem?_eq_some_iff.mp hk).1
    rw [beh_length] at this
    exact this
  rw [beh_get ns i j k hkl] at hk
  have e := Option.some.inj hk
  have a3 := h.getD hkl
  split at e
  · unfold half at e; omega
  · omega
/-! ### unlike numbers -/
theorem firstMet_map {val : Nat → Int} {f : Int → Int} {n : Nat} (h : ∀ i j, i < n → j < n → f (val i) = f (val j) → val i = val j) :
    ∀ i, i ≤ n → PyProof.Rows.firstMet (fun k => f (val k)) i = (PyProof.Rows.firstMet val i).map f
  | 0, _ => rfl
  | i + 1, hi => by
    have ih := firstMet_map h i (by omega)
    rw [PyProof.Rows.firstMet_succ, PyProof.Rows.firstMet_succ, ih]
    have e : ((PyProof.Rows.firstMet val i).map f).any (· == f (val i)) = (PyProof.Rows.firstMet val i).any (· == val i) := by
      rw [← ih, PyProof.Rows.firstMet_any, PyProof.Rows.firstMet_any]
      rw [Bool.eq_iff_iff, List.any_eq_true, List.any_eq_true]
      constructor
      · rintro ⟨x, hx, e⟩
        obtain ⟨k, hk, rfl⟩ := List.mem_map.mp hx
        have hk2 := List.mem_range.mp hk
        exact ⟨val k, List.mem_map.mpr ⟨k, hk, rfl⟩, beq_iff_eq.mpr (h k i (by omega) (by omega) (eq_of_beq e))⟩
      · rintro ⟨x, hx, e⟩
        obtain ⟨k, hk, rfl⟩ := List.mem_map.mp hx
        exact ⟨f (val k), List.mem_map.mpr ⟨k, hk, rfl⟩, beq_iff_eq.mpr (by rw [eq_of_beq e])⟩
    unfold PyProof.Rows.step_dedup
    rw [e]
    split
    · rfl
    · rw [List.map_append]; rfl
theorem dcount_rest {ns : List Int} (h : evs ns = []) : dcount (ns.map (· % 2)) = dcount ns := by
  have no : ∀ i j, i < j → j < ns.length → goodP ns i j = true → False := fun i j h1 h2 h3 => by
    have : ((i : Int), (j : Int)) ∈ evs ns := mem_evs.mpr ⟨i, j, rfl, h1, h2, h3⟩
    rw [h] at this
    cases this
  have inj : ∀ i j, i < ns.length → j < ns.length → (ns.getD i 0) % 2 = (ns.getD j 0) % 2 → ns.getD i 0 = ns.getD j 0 := fun i j hi hj e => by
    by_cases c : ns.getD i 0 = ns.getD j 0
    · exact c
    · rcases Nat.lt_trichotomy i j with l | l | l
      · exact (no i j l hj (goodP_iff.mpr ⟨c, by omega⟩)).elim
      · rw [l]
      · exact (no j i l hi (goodP_iff.mpr ⟨fun z => c z.symm, by omega⟩)).elim
  unfold dcount
  have e1 : (fun i => (ns.map (· % 2)).getD i 0) = fun i => (fun x : Int => x % 2) (ns.getD i 0) := by
    funext i
    rw [List.getD_eq_getElem?_getD, List.getD_eq_getElem?_getD, List.getElem?_map]
    cases ns[i]? <;> rfl
  rw [e1, List.length_map, firstMet_map (f := fun x => x % 2) (val := fun i => ns.getD i 0) inj ns.length (Nat.le_refl _), List.length_map]
/-! ### the row turned about -/
theorem rev_get {ns : List Int} {i : Nat} (h : i < ns.length) : ns.reverse.getD i 0 = ns.getD (ns.length - 1 - i) 0 := by
  rw [List.getD_eq_getElem?_getD, List.getD_eq_getElem?_getD, List.getElem?_reverse h]
theorem evs_rev_nil {ns : List Int} (h : evs ns = []) : evs ns.reverse = [] := by
  rw [List.eq_nil_iff_forall_not_mem]
  intro p hp
  obtain ⟨i, j, rfl, hij, hj, hg⟩ := mem_evs.mp hp
  rw [List.length_reverse] at hj
  obtain ⟨h1, h2⟩ := goodP_iff.mp hg
  rw [rev_get (by omega), rev_get (by omega)] at h1 h2
  have : (((ns.length - 1 - j : Nat) : Int), ((ns.length - 1 - i : Nat) : Int)) ∈ evs ns := mem_evs.mpr ⟨_, _, rfl, by omega, by omega, goodP_iff.mpr ⟨fun z => h1 z.symm, by omega⟩⟩
  rw [h] at this
  cases this
theorem evs_rev_iff {ns : List Int} : evs ns.reverse = [] ↔ evs ns = [] :=
  ⟨fun h => by have := evs_rev_nil h; rwa [List.reverse_reverse] at this, evs_rev_nil⟩
theorem RowOk.rev {ns : List Int} {m g : Int} (h : RowOk ns m g) : RowOk ns.reverse m g :=
  ⟨by rw [List.length_reverse]; exact h.1, by rw [List.length_reverse]; exact h.2.1, fun x hx => h.2.2 x (List.mem_reverse.mp hx)⟩
/-! ### small words -/
theorem cut63 (ns : List Int) : ∃ ms : List Int, cutV (ns.map V.int) none (some 63) = ms.map V.int ∧ (∀ z ∈ ms, z ∈ ns) ∧ ms.length ≤ ns.length := by
  refine ⟨(ns.drop (HT.sIx (ns.map V.int).length 0 none)).take (HT.sIx (ns.map V.int).length (ns.map V.int).length (some 63) - HT.sIx (ns.map V.int).length 0 none), ?_, fun z hz => List.mem_of_mem_drop (List.mem_of_mem_take hz), ?_⟩
  · unfold cutV
    rw [List.map_take, List.map_drop]
  · rw [List.length_take, List.length_drop]
    omega
theorem nq_prs (ps : List Pr) : ¬ (!PyData.eqv (prsD ps) (prsD ps)) = true := by rw [eqv_prs, decide_eq_true rfl]; decide
theorem nq_row (ns : List Int) : ¬ (!PyData.eqv (rowD ns) (rowD ns)) = true := by rw [eqv_row, decide_eq_true rfl]; decide
theorem all_rep (n : Nat) : (List.replicate n true).all id = true := by simp
/-- what is made and then changed leaves what stood before -/
theorem same_upd2 {H H1 : Hp} {o : Addr} {x : HO} (s : Same H H1) (n : H o = none) : Same H (upd H1 o x) := fun b u e => by
  rw [upd_ne (ne_of_none e n)]
  exact s _ _ e
theorem dp_row' {K : PySem.W.Frag} {H : Hp} {a : Addr} {ns : List Int} (h : Lst H a ns) : Dp K H (.ref a) (rowD ns) := dp_row h.sq
theorem two_ways {c : Prop} [Decidable c] {U V : Prop} (v : V) (h : c → V → U) : if c then U else V := by
  by_cases x : c
  · rw [if_pos x]; exact h x v
  · rw [if_neg x]; exact v
theorem offF {A B : Prop} (h : if false = true then A else B) : B := by
  rw [if_neg Bool.false_ne_true] at h
  exact h
end EG

/-! Rows that come by a count of evenings; how many small rows there are. -/
namespace EG
open PySem L2
abbrev Rw := List Int
def ins (ks : List Rw) (r : Rw) : List Rw := if r ∈ ks then ks else ks ++ [r]
def kids (r : Rw) : List Rw := (evs r).map (behP r)
def nextL (L : List Rw) : List Rw := L.foldl (fun acc r => (kids r).foldl ins acc) []
def lev (ns : Rw) : Nat → List Rw
  | 0 => [ns]
  | n + 1 => nextL (lev ns n)
inductive Rch : Rw → Nat → Rw → Prop
  | zero (r : Rw) : Rch r 0 r
  | step {r q : Rw} {n : Nat} {p : Pr} : Rch r n q → p ∈ evs q → Rch r (n + 1) (behP q p)
theorem mem_ins {ks : List Rw} {r x : Rw} : x ∈ ins ks r ↔ x ∈ ks ∨ x = r := by
  unfold ins
  split
  · constructor
    · exact .inl
    · rintro (h | rfl)
      · exact h
      · assumption
  · rw [List.mem_append, List.mem_singleton]
theorem mem_insAll {x : Rw} : ∀ {rs acc : List Rw}, x ∈ rs.foldl ins acc ↔ x ∈ acc ∨ x ∈ rs
  | [], acc => by simp
  | r :: rs, acc => by rw [List.foldl_cons, mem_insAll, mem_ins, List.mem_cons, or_assoc]
theorem nd_ins {ks : List Rw} {r : Rw} (h : ks.Nodup) : (ins ks r).Nodup := by
  unfold ins
  split
  · exact h
  · rename_i c
    exact List.nodup_append.mpr ⟨h, List.nodup_cons.mpr ⟨List.not_mem_nil, List.nodup_nil⟩, fun a ha b hb e => c (by rw [List.mem_singleton] at hb; rw [← hb, ← e]; exact ha)⟩
theorem nd_insAll : ∀ {rs acc : List Rw}, acc.Nodup → (rs.foldl ins acc).Nodup
  | [], _, h => h
  | _ :: rs, _, h => nd_insAll (rs := rs) (nd_ins h)
/-- a level so far -/
def levN (L : List Rw) (i : Nat) : List Rw := (L.take i).foldl (fun acc r => (kids r).foldl ins acc) []
theorem levN_succ {L : List Rw} {i : Nat} {r : Rw} (h : L[i]? = some r) : levN L (i + 1) = (kids r).foldl ins (levN L i) := by
  unfold levN
  rw [List.take_add_one, h, List.foldl_append]
  rfl
theorem levN_all (L : List Rw) : levN L L.length = nextL L := by unfold levN nextL; rw [List.take_length]
theorem mem_fold {x : Rw} : ∀ {L acc : List Rw}, x ∈ L.foldl (fun acc r => (kids r).foldl ins acc) acc ↔ x ∈ acc ∨ ∃ r ∈ L, x ∈ kids r
  | [], acc => by simp
  | r :: L, acc => by
    rw [List.foldl_cons, mem_fold, mem_insAll]
    simp only [List.mem_cons, exists_eq_or_imp, or_assoc]
theorem mem_levN {x : Rw} {L : List Rw} {i : Nat} : x ∈ levN L i ↔ ∃ r ∈ L.take i, x ∈ kids r := by unfold levN; rw [mem_fold]; simp
theorem nd_fold : ∀ {L acc : List Rw}, acc.Nodup → (L.foldl (fun acc r => (kids r).foldl ins acc) acc).Nodup
  | [], _, h => h
  | _ :: L, _, h => nd_fold (L := L) (nd_insAll h)
theorem nd_levN (L : List Rw) (i : Nat) : (levN L i).Nodup := nd_fold List.nodup_nil
theorem nd_lev (ns : Rw) : ∀ n, (lev ns n).Nodup
  | 0 => List.nodup_cons.mpr ⟨List.not_mem_nil, List.nodup_nil⟩
  | _ + 1 => nd_fold List.nodup_nil
theorem mem_kids {r x : Rw} : x ∈ kids r ↔ ∃ p ∈ evs r, x = behP r p := by
  unfold kids
  rw [List.mem_map]
  constructor
  · rintro ⟨p, h, rfl⟩; exact ⟨p, h, rfl⟩
  · rintro ⟨p, h, rfl⟩; exact ⟨p, h, rfl⟩
theorem mem_lev {ns x : Rw} : ∀ {n : Nat}, x ∈ lev ns n ↔ Rch ns n x
  | 0 => by
    show x ∈ [ns] ↔ _
    rw [List.mem_singleton]
    constructor
    · rintro rfl; exact .zero _
    · intro h; cases h; rfl
  | n + 1 => by
    show x ∈ nextL (lev ns n) ↔ _
    unfold nextL
    rw [mem_fold]
    constructor
    · rintro (h | ⟨r, hr, hx⟩)
      · cases h
      · obtain ⟨p, hp, rfl⟩ := mem_kids.mp hx
        exact .step (mem_lev.mp hr) hp
    · intro h
      cases h with
      | @step q _ p h hp => exact .inr ⟨q, mem_lev.mpr h, mem_kids.mpr ⟨p, hp, rfl⟩⟩
theorem Rch.sq {ns r : Rw} {n : Nat} (h : Rch ns n r) : EG.sq r + n ≤ EG.sq ns := by
  induction h with
  | zero => omega
  | step h hp ih =>
    have := sq_fall hp
    omega
theorem Rch.ok {ns r : Rw} {n : Nat} {m g : Int} (h : Rch ns n r) (ok : RowOk ns m g) : RowOk r m g := by
  induction h with
  | zero => exact ok
  | step h hp ih => exact ih.beh hp
theorem behP_length (r : Rw) (p : Pr) : (behP r p).length = r.length := beh_length _ _ _
theorem Rch.len {ns r : Rw} {n : Nat} (h : Rch ns n r) : r.length = ns.length := by
  induction h with
  | zero => rfl
  | step h hp ih => rw [behP_length, ih]
theorem behP_sum {r : Rw} {p : Pr} (hp : p ∈ evs r) : (behP r p).sum = r.sum := by
  obtain ⟨i, j, rfl, hij, hj, hg⟩ := mem_evs.mp hp
  exact sum_beh (by omega) hj (by omega) (goodP_iff.mp hg).2
theorem Rch.sum {ns r : Rw} {n : Nat} (h : Rch ns n r) : List.sum r = List.sum ns := by
  induction h with
  | zero => rfl
  | step h hp ih => rw [behP_sum hp, ih]
theorem sq_nonneg (r : Rw) : 0 ≤ sq r := by
  unfold sq
  induction r with
  | nil => exact Int.le_refl _
  | cons x r ih =>
    rw [List.map_cons, List.sum_cons]
    have : 0 ≤ x * x := by
      rcases Int.le_total 0 x with h | h
      · exact Int.mul_nonneg h h
      · exact Int.mul_nonneg_of_nonpos_of_nonpos h h
    omega
theorem Rch.bound {ns r : Rw} {n : Nat} (h : Rch ns n r) : n ≤ (EG.sq ns).toNat := by
  have h1 := h.sq
  have h2 := sq_nonneg r
  omega
theorem lev_end (ns : Rw) {n : Nat} (h : (sq ns).toNat < n) : lev ns n = [] := by
  rw [List.eq_nil_iff_forall_not_mem]
  intro r hr
  have := (mem_lev.mp hr).bound
  omega
/-- how many rows there are -/
theorem nodup_lt : ∀ (M : Nat) (l : List Nat), l.Nodup → (∀ x ∈ l, x < M) → l.length ≤ M
  | 0, l, _, h => by
    cases l with
    | nil => exact Nat.le_refl _
    | cons x l => exact absurd (h x List.mem_cons_self) (by omega)
  | M + 1, l, nd, h => by
    by_cases c : M ∈ l
    · have ih := nodup_lt M (l.erase M) (nd.erase M) fun x hx => by
        have h1 := h x (List.mem_of_mem_erase hx)
        have h2 : x ≠ M := (nd.mem_erase_iff.mp hx).1
        omega
      rw [List.length_erase_of_mem c] at ih
      omega
    · have ih := nodup_lt M l nd fun x hx => by
        have h1 := h x hx
        have h2 : x ≠ M := fun e => c (by rw [← e]; exact hx)
        omega
      omega
def code (r : Rw) : Nat := r.foldr (fun x a => x.toNat + 21 * a) 0
theorem code_lt : ∀ {r : Rw}, (∀ x ∈ r, 0 ≤ x ∧ x ≤ 20) → code r < 21 ^ r.length
  | [], _ => by decide
  | x :: r, h => by
    have h1 := h x List.mem_cons_self
    have ih := code_lt (r := r) fun y hy => h y (List.mem_cons_of_mem _ hy)
    show x.toNat + 21 * code r < 21 ^ (r.length + 1)
    rw [Nat.pow_succ]
    omega
theorem code_inj : ∀ {r q : Rw}, r.length = q.length → (∀ x ∈ r, 0 ≤ x ∧ x ≤ 20) → (∀ x ∈ q, 0 ≤ x ∧ x ≤ 20) → code r = code q → r = q
  | [], [], _, _, _, _ => rfl
  | [], _ :: _, h, _, _, _ => by simp at h
  | _ :: _, [], h, _, _, _ => by simp at h
  | x :: r, y :: q, hl, hr, hq, e => by
    have h1 := hr x List.mem_cons_self
    have h2 := hq y List.mem_cons_self
    have e' : x.toNat + 21 * code r = y.toNat + 21 * code q := e
    have e1 : x = y := by omega
    have e2 : code r = code q := by omega
    rw [e1, code_inj (by simpa using hl) (fun z hz => hr z (List.mem_cons_of_mem _ hz)) (fun z hz => hq z (List.mem_cons_of_mem _ hz)) e2]
theorem small_count {L : List Rw} (nd : L.Nodup) {n : Nat} (hn : n ≤ 5) (h : ∀ r ∈ L, r.length = n ∧ ∀ x ∈ r, 0 ≤ x ∧ x ≤ 20) : L.length ≤ 4084101 := by
  have h1 : (L.map code).length ≤ 21 ^ n := by
    refine nodup_lt _ _ ?_ ?_
    · rw [List.nodup_iff_pairwise_ne, List.pairwise_map]
      refine List.Pairwise.imp_of_mem ?_ (List.nodup_iff_pairwise_ne.mp nd)
      intro a b ha hb hne e
      exact hne (code_inj ((h a ha).1.trans (h b hb).1.symm) (h a ha).2 (h b hb).2 e)
    · intro x hx
      obtain ⟨r, hr, rfl⟩ := List.mem_map.mp hx
      have := code_lt (h r hr).2
      rwa [(h r hr).1] at this
  rw [List.length_map] at h1
  have h2 : 21 ^ n ≤ 21 ^ 5 := Nat.pow_le_pow_right (by decide) hn
  exact Nat.le_trans h1 (Nat.le_trans h2 (by decide))
abbrev Small (ns : Rw) : Prop := RowOk ns 5 20
theorem Small.row12 {ns : Rw} (h : Small ns) : ns.length ≤ 12 := by have := h.2.1; omega
theorem Small.len5 {ns : Rw} (h : Small ns) : ns.length ≤ 5 := by have := h.2.1; omega
theorem sq_le : ∀ {ns : Rw}, (∀ x ∈ ns, 0 ≤ x ∧ x ≤ 20) → sq ns ≤ 400 * ns.length
  | [], _ => by decide
  | x :: ns, h => by
    have ih := sq_le (ns := ns) fun y hy => h y (List.mem_cons_of_mem _ hy)
    obtain ⟨h1, h2⟩ := h x List.mem_cons_self
    have h3 : x * x ≤ 20 * 20 := Int.mul_le_mul h2 h2 h1 (by decide)
    show (List.map (fun x => x * x) (x :: ns)).sum ≤ 400 * ((x :: ns).length : Int)
    unfold sq at ih
    rw [List.map_cons, List.sum_cons, List.length_cons]
    omega
theorem Small.sq {ns : Rw} (h : Small ns) : (EG.sq ns).toNat ≤ 2000 := by
  have h1 := sq_le h.2.2
  have h2 := h.len5
  omega
theorem count_le {L : List Rw} {ns : Rw} (ok : Small ns) (nd : L.Nodup) (h : ∀ r ∈ L, ∃ n, Rch ns n r) : L.length ≤ 4084101 :=
  small_count nd ok.len5 fun r hr => by
    obtain ⟨n, hn⟩ := h r hr
    exact ⟨hn.len, (hn.ok ok).2.2⟩
theorem lev_count {ns : Rw} (ok : Small ns) (n : Nat) : (lev ns n).length ≤ 4084101 := count_le ok (nd_lev ns n) fun _ hr => ⟨n, mem_lev.mp hr⟩
theorem lineB {n : Nat} (h : n ≤ 4100000) : n < sizeLine := Nat.lt_of_le_of_lt h (by decide)
end EG

/-! The law's own small functions, common to the laws. -/
namespace EG
open PySem L2
theorem at_in {xs : List V} {i : Int} (h0 : 0 ≤ i) (h1 : i < xs.length) : ∃ v, atI xs i = some v ∧ v ∈ xs := by
  have hl : i.toNat < xs.length := by omega
  exact ⟨xs[i.toNat], at_of (j := i.toNat) (by omega) (List.getElem?_eq_getElem hl), List.getElem_mem hl⟩
abbrev bits (i : Int) : Nat := Builtin.Int.intBits i
section
variable {P : Program} {w : World} {K : PySem.W.Frag} {mg : Str → Option Value} {base : Heap}
/-! ### a cell of the script -/
def sp_cell_at (K : PySem.W.Frag) : Sp := fun vs H Q _ => ∃ (a : Addr) (ns : List Int) (k : Int), vs = [.ref a, .int k] ∧ SqL K H a (ns.map V.int) ∧ 0 ≤ k ∧ ∀ z : Int, (z = 0 ∨ z ∈ ns) → Q (.int z) H
theorem ok_cell_at {f : Addr} {fd : FuncData} (F : Fun K "_law_cell_at" "_law_cell_at" s_l_cell_at f fd) (B : Blt mg) : FnOk P w K mg base CX0 1 f fd ["_law_script", "_law_k"] (sp_cell_at K) := by
  refine F.ok sc_l_cell_at (fun vs H Q E h => ?_) (fun cdv A outer s H vs Q E hr h => ?_)
  · obtain ⟨a, ns, k, rfl, _⟩ := h
    rfl
  · obtain ⟨a, ns, k, rfl, hS, h0, q⟩ := h
    refine ⟨_, pss_cons (ps_if (pt_cmpR op_lt (pv 1) (pe_callB call_len_seq (by rfl) B.len PySem.boot_len (pa_cons (pv 0) pa_nil)) (nomark _)) (pss_one (ps_ret (pe_ix ix_list (pv 0) (pv 1) (fun _ _ => rfl)))) pss_nil)
      (pss_one (ps_ret pe_int)), ?_⟩
    refine ⟨.int k, rfl, .ref a, rfl, a, _, rfl, .inl hS, _, _, rfl, rfl, _, rfl, ite2 (fun c => ?_) (fun _ => q 0 (.inl rfl))⟩
    have c1 : k < ((ns.map V.int).length : Int) := of_decide_eq_true c
    obtain ⟨v, e, hv⟩ := at_in h0 c1
    obtain ⟨z, hz, rfl⟩ := List.mem_map.mp hv
    exact ⟨.ref a, rfl, .int k, rfl, a, _, _, _, rfl, rfl, hS, e, q z (.inr hz)⟩
/-! ### a draw -/
def primes : List Int := [1000003, 1000033, 1000037, 1000039, 1000081, 1000099, 1000117, 1000121, 1000133, 1000151, 1000159, 1000171, 1000183, 1000187, 1000193, 1000199]
def sp_draw : Sp := fun vs H Q _ => ∃ c k m : Int, vs = [.int c, .int k, .int m] ∧ 0 < m ∧ ∀ H' z, Same H H' → Q (.int z) H'
theorem ok_draw {f : Addr} {fd : FuncData} (F : Fun K "_law_draw" "_law_draw" s_l_draw f fd) : FnOk P w K mg base CX0 1 f fd ["_law_cell", "_law_k", "_law_many"] sp_draw := by
  refine F.ok sc_l_draw (fun vs H Q E h => ?_) (fun cdv A outer s H vs Q E hr h => ?_)
  · obtain ⟨c, k, m, rfl, _⟩ := h
    rfl
  · obtain ⟨c, k, m, rfl, hm, q⟩ := h
    refine ⟨_, pss_cons (ps_set (i := 3) sc_l_draw.nd rfl (.inl rfl) (pe_tup (pa_cons pe_int (pa_cons pe_int (pa_cons pe_int (pa_cons pe_int (pa_cons pe_int (pa_cons pe_int (pa_cons pe_int (pa_cons pe_int
        (pa_cons pe_int (pa_cons pe_int (pa_cons pe_int (pa_cons pe_int (pa_cons pe_int (pa_cons pe_int (pa_cons pe_int (pa_cons pe_int pa_nil))))))))))))))))))
      (pss_one (ps_ret (pe_op op_mod (pe_op op_mod (pe_op op_add (pe_op op_mul (pv 0) pe_int) (pe_op op_mul (pv 1) pe_int)) (pe_ix ix_tup (pv 3) (pe_op op_mod (pv 1) pe_int) (fun _ _ => rfl))) (pv 2)))), ?_⟩
    refine ⟨(by show 16 ≤ sizeLine; decide), fun t ht => ?_⟩
    have hT : (upd H t (.tup (primes.map V.int))) t = some (.tup (primes.map V.int)) := upd_same
    refine ⟨.int c, rfl, _, _, rfl, rfl, .inr ⟨by decide, by decide⟩, .int k, rfl, _, _, rfl, rfl, .inr ⟨by decide, by decide⟩, _, _, rfl, rfl, ?_⟩
    have h16 : (0 : Int) ≤ k % 16 ∧ k % 16 < 16 := by omega
    obtain ⟨v, e, hv⟩ := at_in (xs := primes.map V.int) (i := k % 16) h16.1 h16.2
    obtain ⟨z, hz, rfl⟩ := List.mem_map.mp hv
    have hz0 : (0 : Int) < z := by
      revert hz
      revert z
      intro z _ _ hz
      have : ∀ y ∈ primes, (0 : Int) < y := by decide
      exact this z hz
    refine ⟨.ref t, rfl, .int k, rfl, _, _, rfl, rfl, (by show (0 : Int) < 16; decide), t, _, _, _, rfl, rfl, SqT.of hT, e, _, _, rfl, rfl, hz0, .int m, rfl, _, _, rfl, rfl, hm, ?_⟩
    exact q _ _ (same_new ht)
/-! ### a value -/
def sp_value : Sp := fun vs H Q _ => ∃ c k : Int, vs = [.int c, .int k] ∧ bits c ≤ 1048600 ∧ 0 ≤ k ∧ k ≤ 1000 ∧ ∀ H' z, Same H H' → Q (.int z) H'
theorem bits_small {z : Int} (h : z.natAbs < 2 ^ 64) : bits z ≤ 64 := intBits_le_iff.mpr h
theorem bits_add {c z : Int} {m : Nat} (hc : bits c ≤ m) (hz : z.natAbs < 2 ^ 64) (hm : 64 ≤ m) : bits (c + z) ≤ m + 1 := by
  have h := intBits_add_le hc (bits_small hz)
  rw [Nat.max_eq_left hm] at h
  exact h
theorem ok_value {f : Addr} {fd : FuncData} (F : Fun K "_law_value" "_law_value" s_l_value f fd) (cD : Cal CX0 P w K mg base "_law_draw" ["_law_cell", "_law_k", "_law_many"] 1 sp_draw) : FnOk P w K mg base CX0 2 f fd ["_law_cell", "_law_turn"] sp_value := by
  refine F.ok sc_l_value (fun vs H Q E h => ?_) (fun cdv A outer s H vs Q E hr h => ?_)
  · obtain ⟨c, k, rfl, _⟩ := h
    rfl
  · obtain ⟨c, k, rfl, hb, h0, h1, q⟩ := h
    refine ⟨_, pss_cons (ps_if (pt_cmpR op_ge (pv 0) (pe_op op_pow pe_int pe_int) (nomark _)) (pss_one (ps_ret (pe_op op_shr (pe_op op_sub (pv 0) (pe_op op_pow pe_int pe_int)) (pe_op op_mul pe_int (pv 1))))) pss_nil)
      (pss_cons (ps_set (i := 2) sc_l_value.nd rfl (.inl rfl) (pe_cal cD hr (by rfl) (pa_cons (pe_op op_mulB (pe_op op_add (pv 0) (pe_op op_mul pe_int (pv 1))) (pe_op op_add (pe_op op_add (pv 0) (pe_op op_mul pe_int (pv 1))) pe_int))
          (pa_cons (pe_op op_add (pe_op op_mod (pv 1) pe_int) pe_int) (pa_cons pe_int pa_nil)))))
      (pss_one (ps_ret (pe_op op_add (pe_op op_mul (pv 2) pe_int) (pe_cal cD hr (by rfl) (pa_cons (pe_op op_add (pe_op op_mulB (pe_op op_add (pv 0) (pe_op op_mul pe_int (pv 1))) (pe_op op_add (pv 0) pe_int)) (pe_op op_mul pe_int (pv 1)))
          (pa_cons (pe_op op_add (pe_op op_mod (pv 1) pe_int) pe_int) (pa_cons pe_int pa_nil)))))))), ?_⟩
    have pw : CPow 10 18 := ⟨by decide, by decide, by decide⟩
    refine ⟨.int c, rfl, _, _, rfl, rfl, pw, _, _, rfl, rfl, _, rfl, ite2 (fun _ => ?_) (fun _ => ?_)⟩
    · refine ⟨.int c, rfl, _, _, rfl, rfl, pw, _, _, rfl, rfl, .int k, rfl, _, _, rfl, rfl, .inl ⟨by decide, by decide⟩, _, _, rfl, rfl, by omega, ?_⟩
      exact q _ _ (Same.refl _)
    · have b1 : bits (c + 977 * k) ≤ 1048601 := bits_add hb (by omega) (by decide)
      have b2 : bits (c + 31 * k) ≤ 1048601 := bits_add hb (by omega) (by decide)
      have b3 : bits (c + 31 * k + 5) ≤ 1048602 := bits_add b2 (by decide) (by decide)
      have b4 : bits (c + 7) ≤ 1048601 := bits_add hb (by decide) (by decide)
      refine ⟨.int c, rfl, .int k, rfl, _, _, rfl, rfl, .inl ⟨by decide, by decide⟩, _, _, rfl, rfl, .int c, rfl, .int k, rfl, _, _, rfl, rfl, .inl ⟨by decide, by decide⟩, _, _, rfl, rfl, _, _, rfl, rfl, _, _, rfl, rfl, IntMulOk.of_le b1 b3 (by decide), ?_⟩
      refine ⟨.int k, rfl, _, _, rfl, rfl, (by show (0 : Int) < 9; decide), _, _, rfl, rfl, _, _, _, rfl, by decide, fun H1 z1 s1 => ?_⟩
      refine ⟨.int z1, rfl, _, _, rfl, rfl, .inr ⟨by decide, by decide⟩, ?_⟩
      refine ⟨.int c, rfl, .int k, rfl, _, _, rfl, rfl, .inl ⟨by decide, by decide⟩, _, _, rfl, rfl, .int c, rfl, _, _, rfl, rfl, _, _, rfl, rfl, IntMulOk.of_le b2 b4 (by decide), .int k, rfl, _, _, rfl, rfl, .inl ⟨by decide, by decide⟩, _, _, rfl, rfl, ?_⟩
      refine ⟨.int k, rfl, _, _, rfl, rfl, (by show (0 : Int) < 7; decide), _, _, rfl, rfl, _, _, _, rfl, by decide, fun H2 z2 s2 => ?_⟩
      exact ⟨_, _, rfl, rfl, q _ _ (s1.trans s2)⟩
end
end EG

/-! A drawn row; the law's own evenings and evening. -/
namespace EG
open PySem L2
section
variable {P : Program} {w : World} {K : PySem.W.Frag} {mg : Str → Option Value} {base : Heap}
def sp_row (K : PySem.W.Frag) : Sp := fun vs H Q _ => ∃ (a : Addr) (ns : List Int) (b m g : Int), vs = [.ref a, .int b, .int m, .int g] ∧ SqL K H a (ns.map V.int) ∧ (∀ z ∈ ns, bits z ≤ 1048576) ∧ 0 ≤ b ∧ b ≤ 1000 ∧ 0 < m ∧ m ≤ 12 ∧ 3 ≤ g ∧ g ≤ 1000000 ∧
  ∀ H' p ms, Same H H' → H p = none → Lst H' p ms → RowOk ms m g → Q (.ref p) H'
theorem ok_row {f : Addr} {fd : FuncData} (F : Fun K "_law_row" "_law_row" s_l_row f fd) (B : Blt mg) (cC : Cal CX0 P w K mg base "_law_cell_at" ["_law_script", "_law_k"] 1 (sp_cell_at K))
    (cV : Cal CX0 P w K mg base "_law_value" ["_law_cell", "_law_turn"] 2 sp_value) : FnOk P w K mg base CX0 3 f fd ["_law_script", "_law_by", "_law_most", "_law_greatest"] (sp_row K) := by
  refine F.ok sc_l_row (fun vs H Q E h => ?_) (fun cdv A outer s H vs Q E hr h => ?_)
  · obtain ⟨a, ns, b, m, g, rfl, _⟩ := h
    rfl
  · obtain ⟨a, ns, b, m, g, rfl, hS, hb, b0, b1, m0, m1, g0, g1, q⟩ := h
    refine ⟨_, pss_cons (ps_set (i := 4) sc_l_row.nd rfl (.inl rfl) (pe_cal cC hr (by rfl) (pa_cons (pv 0) (pa_cons (pv 1) pa_nil))))
      (pss_cons (ps_par (i := 5) (j := 6) rfl sc_l_row.nd rfl rfl (by decide) rfl rfl (pa_cons
          (pe_ix ix_tup (pe_tup (pa_cons (pv 3) (pa_cons pe_int (pa_cons (pe_op op_fdiv (pv 3) pe_int) (pa_cons pe_int pa_nil))))) (pe_op op_mod (pe_cal cV hr (by rfl) (pa_cons (pv 4) (pa_cons pe_int pa_nil))) pe_int) (fun _ _ => rfl)) (pa_cons
          (pe_ix ix_tup (pe_tup (pa_cons pe_int (pa_cons pe_int (pa_cons pe_int (pa_cons pe_int pa_nil))))) (pe_op op_mod (pe_cal cV hr (by rfl) (pa_cons (pv 4) (pa_cons pe_int pa_nil))) pe_int) (fun _ _ => rfl)) pa_nil)) (by rfl))
      (pss_cons (ps_set (i := 7) sc_l_row.nd rfl (.inl rfl) (pe_lst pa_nil))
      (pss_cons (ps_for PassesOwn.never rfl (pi_range1 (by rfl) B.range (pa_cons (pe_op op_add pe_int (pe_op op_mod (pe_cal cV hr (by rfl) (pa_cons (pv 4) (pa_cons pe_int pa_nil))) (pv 2))) pa_nil)) (pg_name (i := 8) sc_l_row.nd rfl (.inl rfl))
        (pss_cons (ps_set (i := 9) sc_l_row.nd rfl (.inl rfl) (pe_op op_fdiv (pe_cal cV hr (by rfl) (pa_cons (pe_op op_add (pe_cal cC hr (by rfl) (pa_cons (pv 0) (pa_cons (pe_op op_add (pv 1) (pe_op op_mod (pv 8) pe_int)) pa_nil))) (pe_op op_mul pe_int (pv 8)))
            (pa_cons (pe_op op_add pe_int (pe_op op_mod (pv 8) pe_int)) pa_nil))) pe_int))
        (pss_one (ps_expr (pe_bm PySem.F.plainAttrs_list PySem.F.slot_list_append PySem.F.type_list_append mt_append (pv 7) (pa_cons (pe_callB (call_min2 rfl) (by rfl) B.min PyProof.Rows.boot_min (pa_cons (pv 3) (pa_cons
            (pe_op op_mul (pe_op op_mod (pv 9) (pe_op op_add (pv 5) pe_int)) (pv 6)) pa_nil))) pa_nil))))))
      (pss_one (ps_ret (pv 7)))))), ?_⟩
    -- the cell
    have cellB : ∀ z : Int, (z = 0 ∨ z ∈ ns) → bits z ≤ 1048576 := fun z hz => by
      rcases hz with rfl | hz
      · decide
      · exact hb z hz
    refine ⟨.ref a, rfl, .int b, rfl, a, ns, b, rfl, hS, b0, fun c hc => ?_⟩
    have bc := cellB c hc
    -- wide, step
    refine ⟨.int g, rfl, .int g, rfl, _, _, rfl, rfl, ⟨by decide, by decide⟩, (by show 4 ≤ sizeLine; decide), fun t ht => ?_⟩
    have s1 : Same H (upd H t (.tup [.int g, .int 3, .int (g / 2), .int 1])) := same_new ht
    refine ⟨.int c, rfl, c, 1, rfl, by omega, by decide, by decide, fun H2 z s2 => ?_⟩
    obtain ⟨v, e, hv⟩ := at_in (xs := [.int g, .int 3, .int (g / 2), .int 1]) (i := z % 4) (by omega) (by show z % 4 < 4; omega)
    obtain ⟨wide, rfl, hw⟩ : ∃ y : Int, v = .int y ∧ 0 ≤ y := by
      simp only [List.mem_cons, List.not_mem_nil, or_false] at hv
      rcases hv with rfl | rfl | rfl | rfl
      · exact ⟨_, rfl, by omega⟩
      · exact ⟨_, rfl, by omega⟩
      · exact ⟨_, rfl, by omega⟩
      · exact ⟨_, rfl, by omega⟩
    refine ⟨_, _, rfl, rfl, (by show (0 : Int) < 4; decide), t, _, _, _, rfl, rfl, SqT.of (s2 _ _ upd_same), e, ?_⟩
    refine ⟨(by show 4 ≤ sizeLine; decide), fun t2 ht2 => ?_⟩
    have s3 : Same H2 (upd H2 t2 (.tup [.int 1, .int 1, .int 2, .int 4])) := same_new ht2
    refine ⟨.int c, rfl, c, 1, rfl, by omega, by decide, by decide, fun H3 z3 s4 => ?_⟩
    obtain ⟨v, e, hv⟩ := at_in (xs := [.int 1, .int 1, .int 2, .int 4]) (i := z3 % 4) (by omega) (by show z3 % 4 < 4; omega)
    obtain ⟨stp, rfl, hs0, hs1⟩ : ∃ y : Int, v = .int y ∧ 0 ≤ y ∧ y ≤ 4 := by
      simp only [List.mem_cons, List.not_mem_nil, or_false] at hv
      rcases hv with rfl | rfl | rfl | rfl
      · exact ⟨_, rfl, by omega, by omega⟩
      · exact ⟨_, rfl, by omega, by omega⟩
      · exact ⟨_, rfl, by omega, by omega⟩
      · exact ⟨_, rfl, by omega, by omega⟩
    refine ⟨_, _, rfl, rfl, (by show (0 : Int) < 4; decide), t2, _, _, _, rfl, rfl, SqT.of (s4 _ _ upd_same), e, ?_⟩
    have s5 : Same H H3 := ((s1.trans s2).trans s3).trans s4
    refine ⟨_, _, rfl, Nat.zero_le _, fun o ho => ?_⟩
    have s6 : Same H (upd H3 o (.lst [])) := s5.trans (same_new ho)
    have hoH : H o = none := s5.free ho
    -- the loop
    refine ⟨.int c, rfl, c, 2, rfl, by omega, by decide, by decide, fun H4 z4 s7 => ?_⟩
    refine ⟨.int m, rfl, _, _, rfl, rfl, m0, _, _, rfl, rfl, ?_⟩
    have em0 : 0 ≤ z4 % m := Int.emod_nonneg _ (by omega)
    have em1 : z4 % m < m := Int.emod_lt_of_pos _ m0
    refine ⟨_, rfl, by omega, by omega, for_range
      (fun i σ H' => ∃ y8 y9 ms, σ = [some (.ref a), some (.int b), some (.int m), some (.int g), some (.int c), some (.int wide), some (.int stp), some (.ref o), y8, y9] ∧ Same H H' ∧ Lst H' o ms ∧ ms.length = i ∧ ∀ x ∈ ms, 0 ≤ x ∧ x ≤ g)
      ⟨none, none, [], rfl, s6.trans s7, s7 _ _ upd_same, rfl, by simp⟩ (fun i σ H5 hi h => ?_) (fun σ H5 h => ?_)⟩
    · obtain ⟨y8, y9, ms, rfl, s8, hL, hlen, hms⟩ := h
      have hi12 : i < 12 := by omega
      refine ⟨.ref a, rfl, .int b, rfl, .int (0 + (i : Int)), rfl, _, _, rfl, rfl, (by show (0 : Int) < 5; decide), _, _, rfl, rfl, a, ns, _, rfl, s8.seq hS, by omega, fun c5 hc5 => ?_⟩
      have bc5 := cellB c5 hc5
      refine ⟨.int (0 + (i : Int)), rfl, _, _, rfl, rfl, .inl ⟨by decide, by decide⟩, _, _, rfl, rfl, .int (0 + (i : Int)), rfl, _, _, rfl, rfl, (by show (0 : Int) < 6; decide), _, _, rfl, rfl, ?_⟩
      refine ⟨_, _, rfl, Nat.le_trans (bits_add bc5 (by omega) (by decide)) (by decide), by omega, by omega, fun H6 z6 s9 => ?_⟩
      refine ⟨_, _, rfl, rfl, ⟨by decide, by decide⟩, ?_⟩
      have hL6 := hL.mono s9
      refine ⟨.ref o, rfl, .inl ⟨rfl, _, SqL.of hL6⟩, .int g, rfl, _, rfl, .int wide, rfl, _, _, rfl, rfl, _, _, rfl, rfl, (by show (0 : Int) < wide + 1; omega), .int stp, rfl, _, _, rfl, rfl, .inr ⟨by omega, by omega⟩, _, _, rfl, ?_⟩
      have en : ∃ y : Int, (if z6 / 3 % (wide + 1) * stp < g then z6 / 3 % (wide + 1) * stp else g) = y ∧ 0 ≤ y ∧ y ≤ g := by
        have p0 : 0 ≤ z6 / 3 % (wide + 1) * stp := Int.mul_nonneg (Int.emod_nonneg _ (by omega)) hs0
        refine ⟨_, rfl, ?_, ?_⟩
        · split <;> omega
        · split <;> omega
      obtain ⟨y, ey, y0, y1⟩ := en
      rw [ey]
      refine ⟨o, _, _, rfl, rfl, hL6, small1000 (by rw [List.length_map]; omega), ?_⟩
      refine ⟨_, _, ms ++ [y], rfl, fun b' x e => ?_, ?_, by rw [List.length_append, hlen]; rfl, fun x hx => ?_⟩
      · rw [upd_ne (ne_of_none e hoH)]
        exact s9 _ _ (s8 _ _ e)
      · show upd H6 o (.lst (ms.map V.int ++ [.int y])) o = some (.lst ((ms ++ [y]).map V.int))
        rw [upd_same, List.map_append]
        rfl
      · rcases List.mem_append.mp hx with hx | hx
        · exact hms x hx
        · rw [List.mem_singleton.mp hx]
          exact ⟨y0, y1⟩
    · obtain ⟨y8, y9, ms, rfl, s8, hL, hlen, hms⟩ := h
      exact ⟨.ref o, rfl, q H5 o ms s8 hoH hL ⟨by omega, by omega, hms⟩⟩
/-! ### the evenings, otherwise -/
open Classical in
noncomputable def kOf (H : Hp) (x : V) : Pr := if h : ∃ p, IsP H x p then h.choose else (0, 0)
theorem IsP.inj {H : Hp} {x : V} {p q : Pr} (h : IsP H x p) (h' : IsP H x q) : p = q := by
  obtain ⟨t, rfl, e⟩ := h
  obtain ⟨t', e2, e3⟩ := h'
  cases e2
  rw [e] at e3
  have e4 := HO.tup.inj (Option.some.inj e3)
  have e5 := V.int.inj (List.cons.inj e4).1
  have e6 := V.int.inj (List.cons.inj (List.cons.inj e4).2).1
  exact Prod.ext e5 e6
theorem kOf_eq {H : Hp} {x : V} {p : Pr} (h : IsP H x p) : kOf H x = p := by
  unfold kOf
  rw [dif_pos ⟨p, h⟩]
  exact IsP.inj (Exists.choose_spec (⟨p, h⟩ : ∃ p, IsP H x p)) h
theorem prs_kOf {H : Hp} : ∀ {vs : List V} {ps : List Pr}, Prs H vs ps → vs.map (kOf H) = ps
  | _, _, .nil => rfl
  | _, _, .cons r t => by rw [List.map_cons, kOf_eq r, prs_kOf t]
theorem prs_of {H : Hp} : ∀ {vs : List V}, (∀ v ∈ vs, ∃ p, IsP H v p) → Prs H vs (vs.map (kOf H))
  | [], _ => .nil
  | v :: vs, h => by
    obtain ⟨p, hp⟩ := h v List.mem_cons_self
    refine .cons ?_ (prs_of fun u hu => h u (List.mem_cons_of_mem _ hu))
    rw [kOf_eq hp]
    exact hp
theorem cnO_len (ns : List Int) (j k : Nat) : (cnO ns j k).length ≤ k := by
  unfold cnO
  rw [List.length_map]
  exact Nat.le_trans (List.length_filter_le _ _) (by rw [List.length_range]; exact Nat.le_refl _)
theorem cnN_len (ns : List Int) : ∀ m, (cnN ns m).length ≤ m * m
  | 0 => Nat.zero_le _
  | m + 1 => by
    have ih := cnN_len ns m
    have h := cnO_len ns m m
    rw [cnN_succ, List.length_append, Nat.succ_mul, Nat.mul_succ]
    omega
def sp_can (K : PySem.W.Frag) : Sp := fun vs H Q _ => ∃ (a : Addr) (ns : List Int), vs = [.ref a] ∧ SqL K H a (ns.map V.int) ∧ ns.length ≤ 12 ∧
  ∀ H' p ws, Same H H' → H p = none → H' p = some (.lst ws) → Prs H' ws (evs ns) → Q (.ref p) H'
theorem ok_can {f : Addr} {fd : FuncData} (F : Fun K "_law_can" "_law_can" s_l_can f fd) (B : Blt mg) : FnOk P w K mg base CX0 1 f fd ["_law_row_here"] (sp_can K) := by
  refine F.ok sc_l_can (fun vs H Q E h => ?_) (fun cdv A outer s H vs Q E hr h => ?_)
  · obtain ⟨a, ns, rfl, _⟩ := h
    rfl
  · obtain ⟨a, ns, rfl, hS, hl, q⟩ := h
    refine ⟨_, pss_cons (ps_set (i := 1) sc_l_can.nd rfl (.inl rfl) (pe_lst pa_nil))
      (pss_cons (ps_for PassesOwn.never rfl (pi_range1 (by rfl) B.range (pa_cons (pe_callB call_len_seq (by rfl) B.len PySem.boot_len (pa_cons (pv 0) pa_nil)) pa_nil)) (pg_name (i := 2) sc_l_can.nd rfl (.inl rfl))
        (pss_one (ps_for PassesOwn.never rfl (pi_range1 (by rfl) B.range (pa_cons (pv 2) pa_nil)) (pg_name (i := 3) sc_l_can.nd rfl (.inl rfl))
          (pss_one (ps_if (PW.pt (pw_and (pt_cmpR op_ne (pe_ix ix_list (pv 0) (pv 3) (fun _ _ => rfl)) (pe_ix ix_list (pv 0) (pv 2) (fun _ _ => rfl)) (nomark _))
              (pw_and1 (pt_cmpR op_eq (pe_op op_mod (pe_ix ix_list (pv 0) (pv 3) (fun _ _ => rfl)) pe_int) (pe_op op_mod (pe_ix ix_list (pv 0) (pv 2) (fun _ _ => rfl)) pe_int) (nomark _)))))
            (pss_one (ps_expr (pe_bm PySem.F.plainAttrs_list PySem.F.slot_list_append PySem.F.type_list_append mt_append (pv 1) (pa_cons (pe_tup (pa_cons (pv 3) (pa_cons (pv 2) pa_nil))) pa_nil))))
            pss_nil)))))
      (pss_one (ps_ret (pe_callB cr_sortedPO (by rfl) B.sorted PyProof.Rows.boot_sorted (pa_cons (pv 1) pa_nil))))), ?_⟩
    refine ⟨Nat.zero_le _, fun o ho => ?_⟩
    have s0 : Same H (upd H o (.lst [])) := same_new ho
    have en : (((ns.map V.int).length : Int)).toNat = ns.length := by rw [List.length_map]; omega
    refine ⟨.ref a, rfl, a, _, rfl, .inl (s0.seq hS), _, rfl, by rw [List.length_map]; omega, by rw [List.length_map]; omega, for_range
      (fun j σ H' => ∃ y2 y3 ws, σ = [some (.ref a), some (.ref o), y2, y3] ∧ Same H H' ∧ H' o = some (.lst ws) ∧ Prs H' ws (cnN ns j))
      ⟨none, none, [], rfl, s0, upd_same, .nil⟩ (fun j σ H1 hj h => ?_) (fun σ H1 h => ?_)⟩
    · obtain ⟨y2, y3, ws, rfl, s1, h1, r1⟩ := h
      rw [en] at hj
      have ej : (0 + (j : Int)).toNat = j := by omega
      refine ⟨.int (0 + (j : Int)), rfl, _, rfl, by omega, by omega, for_range
        (fun i σ H' => ∃ y3 ws, σ = [some (.ref a), some (.ref o), some (.int (0 + (j : Int))), y3] ∧ Same H H' ∧ H' o = some (.lst ws) ∧ Prs H' ws (cnN ns j ++ cnO ns j i))
        ⟨y3, ws, rfl, s1, h1, by simpa [cnO] using r1⟩ (fun i σ H2 hi h => ?_) (fun σ H2 h => ?_)⟩
      · obtain ⟨y4, ws, rfl, s2, h2, r2⟩ := h
        rw [ej] at hi
        have hA := s2.seq hS
        have hin : i < ns.length := by omega
        have g1 : atI (ns.map V.int) (0 + (i : Int)) = some (.int (ns.getD i 0)) := at_of (by omega) (row_get hin)
        have g2 : atI (ns.map V.int) (0 + (j : Int)) = some (.int (ns.getD j 0)) := at_of (by omega) (row_get hj)
        have hlen : ws.length < sizeLine := by
          rw [r2.length, List.length_append]
          have l1 := cnN_len ns j
          have l2 := cnO_len ns j i
          have l3 : j * j ≤ 12 * 12 := Nat.mul_le_mul (by omega) (by omega)
          exact small1000 (by omega)
        refine ⟨.ref a, rfl, .int (0 + (i : Int)), rfl, a, _, _, _, rfl, rfl, hA, g1, .ref a, rfl, .int (0 + (j : Int)), rfl, a, _, _, _, rfl, rfl, hA, g2, rfl, _, rfl, ?_⟩
        rw [dec_int]
        by_cases c1 : ns.getD i 0 = ns.getD j 0
        · refine itN (by rw [decide_eq_true c1]; decide) (iteF ?_)
          refine ⟨_, ws, rfl, s2, h2, ?_⟩
          rw [cnO_succ, if_neg (by unfold goodP; rw [decide_eq_true c1]; simp), List.append_nil]
          exact r2
        · refine itP (by rw [decide_eq_false c1]; rfl) ?_
          refine ⟨.ref a, rfl, .int (0 + (i : Int)), rfl, a, _, _, _, rfl, rfl, hA, g1, _, _, rfl, rfl, (by show (0 : Int) < 2; decide), .ref a, rfl, .int (0 + (j : Int)), rfl, a, _, _, _, rfl, rfl, hA, g2, _, _, rfl, rfl, (by show (0 : Int) < 2; decide), rfl, _, rfl, ?_⟩
          rw [dec_int]
          by_cases c2 : ns.getD i 0 % 2 = ns.getD j 0 % 2
          · refine itP (decide_eq_true c2) ?_
            refine ⟨.ref o, rfl, .inl ⟨rfl, _, SqL.of h2⟩, .int (0 + (i : Int)), rfl, .int (0 + (j : Int)), rfl, (by show 2 ≤ sizeLine; decide), fun t ht => ?_⟩
            have st : Same H2 (upd H2 t (.tup [.int (0 + (i : Int)), .int (0 + (j : Int))])) := same_new ht
            refine ⟨o, ws, _, rfl, rfl, st _ _ h2, hlen, ?_⟩
            have sT : TupS H2 (upd (upd H2 t (.tup [.int (0 + (i : Int)), .int (0 + (j : Int))])) o (.lst (ws ++ [.ref t]))) := (Same.tups st).trans (tups_lst (st _ _ h2))
            refine ⟨_, _, rfl, fun b x e => ?_, upd_same, ?_⟩
            · rw [upd_ne (ne_of_none e ho)]
              exact st _ _ (s2 _ _ e)
            · have c3 : (ns.getD i 0 + ns.getD j 0) % 2 = 0 := by omega
              rw [cnO_succ, if_pos (by unfold goodP; rw [decide_eq_false c1, decide_eq_true c3]; rfl), ← List.append_assoc]
              refine prs_app (r2.mono sT) (.cons ⟨t, rfl, ?_⟩ .nil)
              have nt : t ≠ o := (ne_of_none h2 ht).symm
              rw [upd_ne nt, upd_same, show (0 : Int) + (i : Int) = ((i : Nat) : Int) by omega, show (0 : Int) + (j : Int) = ((j : Nat) : Int) by omega]
          · refine itN (by rw [decide_eq_false c2]; decide) ?_
            refine ⟨_, ws, rfl, s2, h2, ?_⟩
            have c3 : ¬ (ns.getD i 0 + ns.getD j 0) % 2 = 0 := by omega
            rw [cnO_succ, if_neg (by unfold goodP; rw [decide_eq_false c3]; simp), List.append_nil]
            exact r2
      · obtain ⟨y4, ws, rfl, s2, h2, r2⟩ := h
        rw [ej] at r2
        exact ⟨_, _, ws, rfl, s2, h2, by rw [cnN_succ]; exact r2⟩
    · obtain ⟨y2, y3, ws, rfl, s1, h1, r1⟩ := h
      rw [en] at r1
      refine ⟨.ref o, rfl, o, ws, kOf H1, rfl, SqL.of h1, fun x hx => ?_, fun ys p hs hst hp => ?_⟩
      · obtain ⟨pr, _, t, ex, et⟩ := prs_mem r1 hx
        exact ⟨t, ex, by rw [kOf_eq ⟨t, ex, et⟩]; exact et⟩
      · have sN : Same H1 (upd H1 p (.lst ys)) := same_new hp
        have py : Prs H1 ys (ys.map (kOf H1)) := prs_of fun v hv => by
          obtain ⟨pr, _, hpr⟩ := prs_mem r1 (hst.perm.mem_iff.mp hv)
          exact ⟨pr, hpr⟩
        have ey : ys.map (kOf H1) = evs ns := by
          refine evs_uniq ?_ ?_
          · rw [← prs_kOf r1]
            exact hst.perm.map _
          · rw [List.pairwise_map]
            refine hs.imp fun {x y} h h2 => ?_
            have h3 : ltP (kOf H1) y x = true := SrtO.lexB_iff.mpr h2
            exact absurd (h.symm.trans h3) (by decide)
        rw [ey] at py
        exact q _ p ys (s1.trans sN) (s1.free hp) upd_same (py.mono (Same.tups sN))
/-! ### the row behind, otherwise -/
def sp_l_evened (K : PySem.W.Frag) : Sp := fun vs H Q _ => ∃ (a e : Addr) (ns : List Int) (p : Pr), vs = [.ref a, .ref e] ∧ SqL K H a (ns.map V.int) ∧ H e = some (.tup [.int p.1, .int p.2]) ∧ p ∈ evs ns ∧ ns.length ≤ 12 ∧
  ∀ H' o, Same H H' → H o = none → Lst H' o (behP ns p) → Q (.ref o) H'
theorem ok_l_evened {f : Addr} {fd : FuncData} (F : Fun K "_law_evened" "_law_evened" s_l_evened f fd) (B : Blt mg) : FnOk P w K mg base CX0 1 f fd ["_law_row_here", "_law_pair"] (sp_l_evened K) := by
  refine F.ok sc_l_evened (fun vs H Q E h => ?_) (fun cdv A outer s H vs Q E hr h => ?_)
  · obtain ⟨a, e, ns, p, rfl, _⟩ := h
    rfl
  · obtain ⟨a, e, ns, p, rfl, hS, hT, hp, hl, q⟩ := h
    refine ⟨_, pss_cons (ps_set (i := 2) sc_l_evened.nd rfl (.inl rfl) (pe_callTy call_list_of (by rfl) B.list PyProof.Rows.boot_list (pa_cons (pv 0) pa_nil)))
      (pss_cons (ps_asg (pe_op op_fdiv (pe_op op_add (pe_ix ix_list (pv 0) (pe_ix ix_tup (pv 1) pe_int (fun _ _ => rfl)) (fun _ _ => rfl)) (pe_ix ix_list (pv 0) (pe_ix ix_tup (pv 1) pe_int (fun _ _ => rfl)) (fun _ _ => rfl))) pe_int)
        (pg_sub (pv 2) (pe_ix ix_tup (pv 1) pe_int (fun _ _ => rfl)) set_list))
      (pss_cons (ps_asg (pe_ix ix_list (pv 2) (pe_ix ix_tup (pv 1) pe_int (fun _ _ => rfl)) (fun _ _ => rfl)) (pg_sub (pv 2) (pe_ix ix_tup (pv 1) pe_int (fun _ _ => rfl)) set_list))
      (pss_one (ps_ret (pv 2))))), ?_⟩
    obtain ⟨i, j, ep, hij, hj, hg⟩ := mem_evs.mp hp
    subst ep
    have hi : i < ns.length := by omega
    refine ⟨.ref a, rfl, a, _, rfl, .inl hS, fun o ho => ?_⟩
    have s1 : Same H (upd H o (.lst (ns.map V.int))) := same_new ho
    have hA := s1.seq hS
    have hT1 := s1 _ _ hT
    have no : e ≠ o := ne_of_none hT ho
    have g1 : atI (ns.map V.int) (i : Int) = some (.int (ns.getD i 0)) := atI_nat (row_get hi)
    have g2 : atI (ns.map V.int) (j : Int) = some (.int (ns.getD j 0)) := atI_nat (row_get hj)
    have ix : ∀ {xs : List V} {k : Nat}, k < xs.length → ixN xs.length (k : Int) = some k := fun {xs k} h => by
      unfold ixN
      rw [if_pos (by omega), if_pos (by omega)]; simp
    refine ⟨.ref a, rfl, .ref e, rfl, e, _, 0, .int (i : Int), rfl, rfl, SqT.of hT1, rfl, a, _, _, _, rfl, rfl, hA, g1, .ref a, rfl, .ref e, rfl, e, _, 1, .int (j : Int), rfl, rfl, SqT.of hT1, rfl, a, _, _, _, rfl, rfl, hA, g2, _, _, rfl, rfl, _, _, rfl, rfl, ⟨by decide, by decide⟩, ?_⟩
    refine ⟨.ref o, rfl, .ref e, rfl, e, _, 0, .int (i : Int), rfl, rfl, SqT.of hT1, rfl, o, _, _, i, rfl, rfl, upd_same, ix (by rw [List.length_map]; exact hi), ?_⟩
    rw [upd_upd]
    have hT2 : ∀ z, (upd H o z) e = some (.tup [.int (i : Int), .int (j : Int)]) := fun z => by rw [upd_ne no]; exact hT
    have e1 : (ns.map V.int).set i (.int ((ns.getD i 0 + ns.getD j 0) / 2)) = (ns.set i (half ns i j)).map V.int := by rw [List.map_set]; rfl
    rw [e1]
    have g3 : atI ((ns.set i (half ns i j)).map V.int) (i : Int) = some (.int (half ns i j)) := atI_nat (by rw [List.getElem?_map, List.getElem?_set_self (by exact hi)]; rfl)
    refine ⟨.ref o, rfl, .ref e, rfl, e, _, 0, .int (i : Int), rfl, rfl, SqT.of (hT2 _), rfl, o, _, _, _, rfl, rfl, SqL.of upd_same, g3, ?_⟩
    refine ⟨.ref o, rfl, .ref e, rfl, e, _, 1, .int (j : Int), rfl, rfl, SqT.of (hT2 _), rfl, o, _, _, j, rfl, rfl, upd_same, ix (by rw [List.length_map, List.length_set]; exact hj), ?_⟩
    rw [upd_upd]
    have e2 : ((ns.set i (half ns i j)).map V.int).set j (.int (half ns i j)) = (beh ns i j).map V.int := by rw [← beh_set, List.map_set (l := ns.set i (half ns i j))]
    rw [e2]
    exact ⟨.ref o, rfl, q _ o (same_new ho) ho upd_same⟩
end
end EG

/-! says, whole: the law's looks at a kind. -/
namespace EG
open PySem L2
section
variable {P : Program} {w : World} {K : PySem.W.Frag} {mg : Str → Option Value} {base : Heap}
def sp_says : Sp := fun vs H Q _ => ∃ a b : Bool, vs = [.bl a, .bl b] ∧ Q (.bl (decide (a = b))) H
theorem dec_bl (a b : Bool) : decide (V.bl a = V.bl b) = decide (a = b) := by
  by_cases h : a = b
  · subst h; simp
  · have h2 : ¬ V.bl a = V.bl b := fun z => h (V.bl.inj z)
    rw [decide_eq_false h, decide_eq_false h2]
theorem ok_says {f : Addr} {fd : FuncData} (F : Fun K "_law_says" "_law_says" s_l_says f fd) (B : Blt mg) : FnOk P w K mg base CX0 1 f fd n_says sp_says := by
  refine F.ok sc_l_says (fun vs H Q E h => ?_) (fun cdv A outer s H vs Q E hr h => ?_)
  · obtain ⟨a, b, rfl, _⟩ := h
    rfl
  · obtain ⟨a, b, rfl, q⟩ := h
    refine ⟨_, pss_one (ps_ret (pe_and (pe_callB call_isi (by rfl) B.isi PyProof.Rows.boot_isinstance (pa_cons (pv 0) (pa_cons (pe_bltn (v := .ty "bool") (by rfl) B.bool PyProof.Rows.boot_bool rfl) pa_nil)))
      (pe_one (pe_cmpR op_eq (pv 0) (pv 1) (nomark _))))), ?_⟩
    refine ⟨.bl a, rfl, _, _, _, _, true, rfl, .ty _, .base (.bl a), kit_ty (by decide +kernel), true, rfl, iteT (B := True) ⟨.bl a, rfl, .bl b, rfl, rfl, ?_⟩⟩
    rw [dec_bl]
    exact q
end
end EG

/-! {key: value} of one pair, the key a tuple. -/
namespace EG
open PySem PySem.Spec PyProof.Rows L2
def tDispT (tk tv : TE) : TE := fun σ H Q => ∀ p, H p = none → tk σ (upd H p (.dT [])) fun x H1 => tv σ H1 fun y H2 =>
  ∃ (b : Addr) (k : List Key), x = .ref b ∧ H2 p = some (.dT []) ∧ H2 b = some (.tup (k.map kV)) ∧ Q (.ref p) (upd H2 p (.dT [(k, y)]))
section
variable {X : Cx}
theorem pe_dispT {k v : Expr} {tk tv : TE} {pos : Pos} (hu : X.A.units + 1 < cLine) (hk : PE X k tk) (hv : PE X v tv) : PE X (.Dict [some k] [v] pos) (tDispT tk tv) := by
  refine ⟨fun pins s σ H Q I q => ?_⟩
  have fr := I.hok.fresh (Nat.le_refl s.heap.objs.size)
  have IA := I.laid (a := s.heap.objs.size) (o := .dT []) (h' := s.heap.push { cls := .type "dict", data := .dict #[] }) (t' := s.toks) (fun _ _ z => Heap.get?_push_of_some _ z) (Nat.le_refl _) (dt_empty s.heap I.big)
  rw [arm_eval_Dict, zip_pairTrees [some k] [v] X.env pos rfl rfl, dictDisplay_pairs (pairTrees [some k] [v] X.env pos) (by simp [pairTrees]) (by simp [pairTrees])]
  refine wpAny_bind (wpAny_standAt (wpAny_bind (wpAny_subDictH (knd := tupleKind (mixKind X.prog X.w)) (Q := fun d s' => wpAny (model X.prog X.w) X.A (pure (Value.ref d)) (EP X pins σ Q) X.xe s') (show X.A.units < cLine by omega) (by simp [pairTrees]) ?_)))
  refine pairTrees_cons_walk (thn (hk.run pins _ σ _ _ IA (q _ fr)) fun u sA ⟨x, HA, IB, rx, qA⟩ => thn (hv.run pins sA σ HA _ IB qA) fun z sB ⟨y, HB, IC, ry, b, ks, ex, e, eb, qB⟩ => pairTrees_nil_walk ?_)
  subst ex
  cases rx
  obtain ⟨_, hd, xs, rel, dd⟩ := dt_of IC.hok e
  cases rel
  refine ⟨[(ks, b, z)], ⟨rfl, rfl, key_of IC.hok eb, trivial⟩, dd, fun hN tN dN hs => wpAny_pure ⟨.ref s.heap.objs.size, _, ?_, rfl, qB⟩⟩
  obtain ⟨o, es, ep, hq, h2, h3, h4, _, h5⟩ := dN
  refine d_write IC (by rw [e]; exact True.intro) hs ⟨o, hq⟩ ⟨by show 1 ≤ sizeLine; decide, hd, [(ks, b, z)], .cons ⟨rfl, ?_, ry⟩ .nil, o, es, ep, hq, h2, h3, h4, h5⟩
  rw [upd_ne (ne_of eb e (fun w => nomatch w))]
  exact eb
end
end EG

/-! Dicts whose keys are rows; lists of rows. -/
namespace EG
open PySem L2
def rowKey (r : Rw) : List Key := r.map Sum.inl
theorem rowKey_V (r : Rw) : (rowKey r).map kV = r.map V.int := by unfold rowKey; rw [List.map_map]; rfl
theorem rowKey_inj {r q : Rw} (h : rowKey r = rowKey q) : r = q := by
  unfold rowKey at h
  exact (List.map_inj_right fun a b e => Sum.inl.inj e).mp h
def dRows (ks : List Rw) : List (List Key × V) := ks.map fun r => (rowKey r, V.bl true)
theorem dRows_length (ks : List Rw) : (dRows ks).length = ks.length := List.length_map ..
theorem val_dRows (r : Rw) : ∀ ks : List Rw, (valV (dRows ks) (rowKey r)).isSome = decide (r ∈ ks)
  | [] => rfl
  | k :: ks => by
    have ih := val_dRows r ks
    by_cases e : k = r
    · subst e
      rw [show dRows (k :: ks) = (rowKey k, V.bl true) :: dRows ks from rfl, valV_pos rfl]
      simp
    · have e2 : ¬ (rowKey k, V.bl true).1 = rowKey r := fun z => e (rowKey_inj z)
      have e3 : ¬ r = k := fun z => e z.symm
      rw [show dRows (k :: ks) = (rowKey k, V.bl true) :: dRows ks from rfl, valV_neg e2, ih]
      simp [e3]
theorem put_dRows (ks : List Rw) (r : Rw) : putK (dRows ks) (rowKey r) (V.bl true) = dRows (ins ks r) := by
  unfold ins
  by_cases c : r ∈ ks
  · rw [if_pos c]
    unfold putK
    rw [valV_any, val_dRows, decide_eq_true c, if_pos rfl]
    unfold dRows
    rw [List.map_map]
    refine List.map_congr_left fun q _ => ?_
    show (if rowKey q = rowKey r then (rowKey q, V.bl true) else (rowKey q, V.bl true)) = _
    split <;> rfl
  · rw [if_neg c, putK_new]
    · unfold dRows; rw [List.map_append]; rfl
    · have h := val_dRows r ks
      rw [decide_eq_false c] at h
      cases e : valV (dRows ks) (rowKey r) with
      | none => rfl
      | some v => rw [e] at h; cases h
theorem get_dRows {ks : List Rw} {i : Nat} {k : List Key} {v : V} (h : (dRows ks)[i]? = some (k, v)) : ∃ r, ks[i]? = some r ∧ k = rowKey r := by
  unfold dRows at h
  rw [List.getElem?_map] at h
  cases e : ks[i]? with
  | none => rw [e] at h; cases h
  | some r => rw [e] at h; cases h; exact ⟨r, rfl, rfl⟩
/-- a comprehension over a dict's tuple keys -/
theorem lc_keysT {d : Addr} {od : Obj} {kvs : List (List Key × V)} {g : TG} {tt : TT} {te : TE} {vs : List Nat} {σ : St} {H1 : Hp} {D : Addr} {Qd : Hp → Prop} (Pv : Nat → Hp → Prop) (h0 : Pv 0 (upd H1 D (.lst [])))
    (hl : ∀ i H, Pv i H → H d = some (.frz od (.dT kvs)))
    (hs : ∀ (i : Nat) (k : List Key) (v : V) (q : Addr) (H : Hp), kvs[i]? = some (k, v) → H q = some (.tup (k.map kV)) → Pv i H → g (.ref q) (wipe σ vs) H fun σ2 H2 => wipe σ2 vs = wipe σ vs ∧ tt σ2 H2 fun b H3 =>
      if b = true then te σ2 H3 fun y H4 => ∃ acc, H4 D = some (.lst acc) ∧ acc.length < sizeLine ∧ Pv (i + 1) (upd H4 D (.lst (acc ++ [y]))) else Pv (i + 1) H3) (hd : ∀ H, Pv kvs.length H → Qd H) :
    ∃ W : Nat → Nat → Hp → Prop, (∃ m, W 0 m (upd H1 D (.lst []))) ∧ ∀ i m H, W i m H →
      ((Itkt d od kvs).stop i H ∧ Qd H) ∨ ((Itkt d od kvs).go i H ∧ ∃ Nx : Hp → Prop, (∀ H', Nx H' → ∃ m', m' < m ∧ W (i + 1) m' H') ∧ ∀ x H', (Itkt d od kvs).yld i H x H' → g x (wipe σ vs) H' fun σ2 H2 => wipe σ2 vs = wipe σ vs ∧ tt σ2 H2 fun b H3 =>
        if b = true then te σ2 H3 fun y H4 => ∃ acc, H4 D = some (.lst acc) ∧ acc.length < sizeLine ∧ Nx (upd H4 D (.lst (acc ++ [y]))) else Nx H3) := by
  refine ⟨fun i m H => m = kvs.length - i ∧ i ≤ kvs.length ∧ Pv i H, ⟨kvs.length, by omega, Nat.zero_le _, h0⟩, ?_⟩
  rintro i m H ⟨rfl, hi, p⟩
  have hdo := hl i H p
  by_cases c : i < kvs.length
  · refine .inr ⟨⟨hdo, c⟩, Pv (i + 1), fun H' z => ⟨kvs.length - (i + 1), by omega, rfl, c, z⟩, fun x H' y => ?_⟩
    obtain ⟨rfl, k, v, q, ek, rfl, eq⟩ := y
    exact hs i k v q _ ek eq p
  · have e : i = kvs.length := by omega
    subst e
    exact .inl ⟨⟨hdo, Nat.le_refl _⟩, hd H p⟩
/-! ### lists that stand -/
def Lsts (H H' : Hp) : Prop := ∀ b xs, H b = some (.lst xs) → H' b = some (.lst xs)
theorem Same.lsts {H H' : Hp} (s : Same H H') : Lsts H H' := fun b xs h => s b _ h
theorem Lsts.refl (H : Hp) : Lsts H H := fun _ _ h => h
theorem Lsts.trans {H H1 H2 : Hp} (a : Lsts H H1) (b : Lsts H1 H2) : Lsts H H2 := fun c xs h => b c xs (a c xs h)
theorem lsts_dT {H : Hp} {p : Addr} {kvs : List (List Key × V)} {o : HO} (h : H p = some (.dT kvs)) : Lsts H (upd H p o) := fun b ys e => by
  rw [upd_ne (ne_of e h (by intro z; cases z))]; exact e
theorem lsts_frz {H : Hp} {p : Addr} {u : Obj} {z : HO} {o : HO} (h : H p = some (.frz u z)) : Lsts H (upd H p o) := fun b ys e => by
  rw [upd_ne (ne_of e h (by intro z; cases z))]; exact e
theorem tups_dT {H : Hp} {p : Addr} {kvs : List (List Key × V)} {o : HO} (h : H p = some (.dT kvs)) : TupS H (upd H p o) := fun b ys e => by
  rw [upd_ne (ne_of e h (by intro z; cases z))]; exact e
theorem tups_frz {H : Hp} {p : Addr} {u : Obj} {z : HO} {o : HO} (h : H p = some (.frz u z)) : TupS H (upd H p o) := fun b ys e => by
  rw [upd_ne (ne_of e h (by intro z; cases z))]; exact e
/-- a heap without some addresses -/
def hid (H : Hp) (xs : List Addr) : Hp := fun b => if b ∈ xs then none else H b
theorem hid_in {H : Hp} {xs : List Addr} {b : Addr} (h : b ∈ xs) : hid H xs b = none := if_pos h
theorem hid_out {H : Hp} {xs : List Addr} {b : Addr} (h : b ∉ xs) : hid H xs b = H b := if_neg h
theorem hid_same (H : Hp) (xs : List Addr) : Same (hid H xs) H := fun b o e => by
  unfold hid at e
  split at e
  · cases e
  · exact e
theorem hid_mono {H H' : Hp} {xs : List Addr} (s : Same H H') : Same (hid H xs) (hid H' xs) := fun b o e => by
  unfold hid at e ⊢
  split at e
  · cases e
  · rename_i c
    rw [if_neg c]
    exact s _ _ e
theorem hid_lsts {H H' : Hp} {xs : List Addr} (s : Lsts H H') : Lsts (hid H xs) (hid H' xs) := fun b o e => by
  unfold hid at e ⊢
  split at e
  · cases e
  · rename_i c
    rw [if_neg c]
    exact s _ _ e
theorem hid_upd {H : Hp} {xs : List Addr} {a : Addr} {o : HO} (h : a ∈ xs) : hid (upd H a o) xs = hid H xs := by
  funext b
  unfold hid
  split
  · rfl
  · rename_i c
    exact upd_ne fun e => c (by rw [e]; exact h)
theorem hid_less {H : Hp} {xs ys : List Addr} (h : ∀ a ∈ xs, a ∈ ys) : Same (hid H ys) (hid H xs) := fun b o e => by
  unfold hid at e ⊢
  split at e
  · cases e
  · rename_i c
    rw [if_neg fun z => c (h b z)]
    exact e
/-- a value that is a row; a list of rows -/
def IsRow (H : Hp) (v : V) (r : Rw) : Prop := ∃ b, v = .ref b ∧ Lst H b r
abbrev Rows (H : Hp) : List V → List Rw → Prop := Paired (IsRow H)
def IsLv (H : Hp) (v : V) (L : List Rw) : Prop := ∃ b ws, v = .ref b ∧ H b = some (.lst ws) ∧ Rows H ws L
abbrev Lvs (H : Hp) : List V → List (List Rw) → Prop := Paired (IsLv H)
theorem IsRow.mono {H H' : Hp} (s : Lsts H H') {v : V} {r : Rw} (h : IsRow H v r) : IsRow H' v r := by
  obtain ⟨b, e, h⟩ := h
  exact ⟨b, e, s _ _ h⟩
theorem Rows.mono {H H' : Hp} (s : Lsts H H') {vs : List V} {L : List Rw} (h : Rows H vs L) : Rows H' vs L := Paired.mapP h fun _ _ q => q.mono s
theorem IsLv.mono {H H' : Hp} (s : Lsts H H') {v : V} {L : List Rw} (h : IsLv H v L) : IsLv H' v L := by
  obtain ⟨b, ws, e, h, r⟩ := h
  exact ⟨b, ws, e, s _ _ h, r.mono s⟩
theorem Lvs.mono {H H' : Hp} (s : Lsts H H') {vs : List V} {L : List (List Rw)} (h : Lvs H vs L) : Lvs H' vs L := Paired.mapP h fun _ _ q => q.mono s
theorem pd_app {α β : Type} {F : α → β → Prop} : ∀ {vs ws : List α} {ps qs : List β}, Paired F vs ps → Paired F ws qs → Paired F (vs ++ ws) (ps ++ qs)
  | _, _, _, _, .nil, h => h
  | _, _, _, _, .cons r t, h => .cons r (pd_app t h)
theorem pd_at {α β : Type} {F : α → β → Prop} : ∀ {vs : List α} {ps : List β} {i : Nat} {v : α}, Paired F vs ps → vs[i]? = some v → ∃ p, ps[i]? = some p ∧ F v p
  | _, _, _, _, .nil, e => by simp at e
  | _, _, 0, _, .cons r _, e => by simp at e; subst e; exact ⟨_, rfl, r⟩
  | _, _, i + 1, v, .cons _ t, e => by
    obtain ⟨p, h1, h2⟩ := pd_at (i := i) (v := v) t (by simpa using e)
    exact ⟨p, by simpa using h1, h2⟩
theorem pd_len {α β : Type} {F : α → β → Prop} {vs : List α} {ps : List β} (h : Paired F vs ps) : vs.length = ps.length := Paired.length h
end EG

/-! The law's levels. -/
namespace EG
open PySem L2
section
variable {P : Program} {w : World} {K : PySem.W.Frag} {mg : Str → Option Value} {base : Heap}
def sp_levels (K : PySem.W.Frag) : Sp := fun vs H Q _ => ∃ (a : Addr) (ns : List Int), vs = [.ref a] ∧ SqL K H a (ns.map V.int) ∧ Small ns ∧
  ∀ H' p zs n, Same H H' → H p = none → H' p = some (.lst zs) → Lvs H' zs ((List.range n).map (lev ns)) → lev ns n = [] → (∀ i < n, lev ns i ≠ []) → Q (.ref p) H'
abbrev N_l_levels : List Str := ["_law_row_here", "_law_levels_here", "_law_line", "_law_more", "_law_some", "_law_pair"]
theorem ok_levels {f : Addr} {fd : FuncData} (F : Fun K "_law_levels" "_law_levels" s_l_levels f fd) (B : Blt mg) (c_l_can : Cal CX0 P w K mg base "_law_can" ["_law_row_here"] 1 (sp_can K))
    (c_l_evened : Cal CX0 P w K mg base "_law_evened" ["_law_row_here", "_law_pair"] 1 (sp_l_evened K)) : FnOk P w K mg base CX0 2 f fd ["_law_row_here"] (sp_levels K) := by
  refine F.ok sc_l_levels (fun vs H Q E h => ?_) (fun cdv A outer s H vs Q E hr h => ?_)
  · obtain ⟨a, ns, rfl, _⟩ := h
    rfl
  · obtain ⟨a, ns, rfl, hS, ok, q⟩ := h
    refine ⟨_, (pss_cons (ps_par (i := 1) (j := 2) rfl sc_l_levels.nd rfl rfl (by decide) rfl rfl (pa_cons (pe_lst pa_nil) (pa_cons (pe_dispT (hu_of hr) (pe_callTy (r := rTupOf K) call_tuple_of (by rfl) B.tuple PyProof.Rows.boot_tuple (pa_cons (pv 0) pa_nil)) pe_bl) pa_nil)) (by rfl))
    (pss_cons (ps_while PassesOwn.never (pt_cmpR op_gt (pe_callB call_len_dT (by rfl) B.len PySem.boot_len (pa_cons (pv 2) pa_nil)) pe_int (nomark _))
    (pss_cons (ps_expr (pe_bm PySem.F.plainAttrs_list PySem.F.slot_list_append PySem.F.type_list_append mt_append (pv 1) (pa_cons (pe_lock (pe_lc (own := [("_law_some", 4)]) (g := gName 4) (tt := tYes) rfl sc_l_levels.nd (pi_keys (pv 2)) (blkOk_by (N := N_l_levels) (sc := defScope s_l_levels) (by decide +kernel)) (fun _ _ _ _ _ => (pg_name (i := 4) sc_l_levels.nd rfl (.inl rfl))) (fun _ _ _ _ _ => pts_nil) (fun _ _ _ _ _ => (pe_callTy (r := rListOf K) call_list_of (by rfl) B.list PyProof.Rows.boot_list (pa_cons (pv 4) pa_nil))))) pa_nil)))
      (pss_cons (ps_set (i := 3) sc_l_levels.nd rfl (.inl rfl) pe_dnewT)
      (pss_cons (ps_for PassesOwn.never rfl (pi_list (pe_ix (r := rIxL K) ix_list (pv 1) (pe_un un_neg pe_int) (fun _ _ => rfl))) (pg_name (i := 4) sc_l_levels.nd rfl (.inl rfl))
      (pss_one (ps_for PassesOwn.never rfl (pi_list (pe_cal c_l_can hr (by rfl) (pa_cons (pv 4) pa_nil))) (pg_name (i := 5) sc_l_levels.nd rfl (.inl rfl))
        (pss_one (ps_dput (hu_of hr) (pv 3) (pe_callTy (r := rTupOf K) call_tuple_of (by rfl) B.tuple PyProof.Rows.boot_tuple (pa_cons (pe_cal c_l_evened hr (by rfl) (pa_cons (pv 4) (pa_cons (pv 5) pa_nil))) pa_nil)) pe_bl rfl)))))
      (pss_one (ps_set (i := 2) sc_l_levels.nd rfl (.inl rfl) (pv 3)))))))
    (pss_one (ps_ret (pv 1))))), ?_⟩
    have l12 := ok.row12
    refine ⟨Nat.zero_le _, fun lv hlv => ?_⟩
    have s1 : Same H (upd H lv (.lst [])) := same_new hlv
    refine fun ln hln => ?_
    have s2 : Same (upd H lv (.lst [])) (upd (upd H lv (.lst [])) ln (.dT [])) := same_new hln
    refine ⟨.ref a, rfl, a, _, rfl, .inl ⟨(s1.trans s2).seq hS, fun t ht => ?_⟩⟩
    have s3 : Same (upd (upd H lv (.lst [])) ln (.dT [])) (upd (upd (upd H lv (.lst [])) ln (.dT [])) t (.tup (ns.map V.int))) := same_new ht
    have hlnH : H ln = none := s1.free hln
    have nll : lv ≠ ln := (ne_of_none (show (upd H lv (.lst [])) lv = some (.lst []) from upd_same) hln)
    refine ⟨t, rowKey ns, rfl, s3 _ _ upd_same, by rw [rowKey_V]; exact upd_same, _, _, rfl, ?_⟩
    -- the loop
    refine ⟨fun m σ H' => ∃ n zs ln y3 y4 y5, n + m = (sq ns).toNat + 1 ∧ σ = [some (.ref a), some (.ref lv), some (.ref ln), y3, y4, y5] ∧ Same H H' ∧ H' lv = some (.lst zs) ∧ H' ln = some (.dT (dRows (lev ns n))) ∧
        Lvs (hid H' [lv]) zs ((List.range n).map (lev ns)) ∧ H ln = none ∧ ∀ i < n, lev ns i ≠ [], ⟨(sq ns).toNat + 1, 0, [], ln, none, none, none, by omega, rfl, ?_, ?_, ?_, .nil, hlnH, fun i hi => absurd hi (by omega)⟩, fun m σ H1 h => ?_⟩
    · exact same_upd2 ((s1.trans s2).trans s3) hlnH
    · rw [upd_ne nll]
      exact s3 _ _ (s2 _ _ upd_same)
    · rw [upd_same]
      rfl
    · obtain ⟨n, zs, ln, y3, y4, y5, em, rfl, sA, hlvA, hlnA, lvA, hlnH, hne⟩ := h
      have cnt := lev_count ok n
      refine ⟨.ref ln, rfl, ln, _, rfl, hlnA, _, _, rfl, rfl, _, rfl, ite2 (fun c => ?_) (fun c => ?_)⟩
      · -- one more level
        have c1 : 0 < (lev ns n).length := by
          have := of_decide_eq_true c
          rw [dRows_length] at this
          omega
        have c2 : lev ns n ≠ [] := fun z => by rw [z] at c1; exact absurd c1 (by decide)
        have hnb : n ≤ (sq ns).toNat := by
          apply Classical.byContradiction
          intro z
          exact c2 (lev_end ns (by omega))
        refine ⟨fun σ' H' => ∃ zs ln y3 y4 y5, σ' = [some (.ref a), some (.ref lv), some (.ref ln), y3, y4, y5] ∧ Same H H' ∧ H' lv = some (.lst zs) ∧ H' ln = some (.dT (dRows (lev ns (n + 1)))) ∧
            Lvs (hid H' [lv]) zs ((List.range (n + 1)).map (lev ns)) ∧ H ln = none, fun σ' H' h => ?_, ?_⟩
        · obtain ⟨zs, ln, y3, y4, y5, rfl, g1, g2, g3, g4, g5⟩ := h
          refine ⟨m - 1, by omega, n + 1, zs, ln, y3, y4, y5, by omega, rfl, g1, g2, g3, g4, g5, fun i hi => ?_⟩
          by_cases e : i = n
          · rw [e]; exact c2
          · exact hne i (by omega)
        -- levels.append([..])
        have nlv : ln ≠ lv := (ne_of hlnA hlvA (by intro z; cases z))
        refine ⟨.ref lv, rfl, .inl ⟨rfl, _, SqL.of hlvA⟩, ln, _, hlnA, trivial, fun od => ?_⟩
        have hfz : (upd H1 ln (.frz od (.dT (dRows (lev ns n))))) ln = some (.frz od (.dT (dRows (lev ns n)))) := upd_same
        have hlv1 : (upd H1 ln (.frz od (.dT (dRows (lev ns n))))) lv = some (.lst zs) := by rw [upd_ne nlv.symm]; exact hlvA
        have ls1 : Lsts H1 (upd H1 ln (.frz od (.dT (dRows (lev ns n))))) := lsts_dT hlnA
        have s4 : Same H (upd H1 ln (.frz od (.dT (dRows (lev ns n))))) := same_upd2 sA hlnH
        have lv1 := lvA.mono (hid_lsts (xs := [lv]) ls1)
        have hold : ∀ b o, (upd H1 ln (.frz od (.dT (dRows (lev ns n))))) b = some o → b ≠ ln → H1 b = some o := fun b o e nb => by rw [upd_ne nb] at e; exact e
        generalize upd H1 ln (.frz od (.dT (dRows (lev ns n)))) = HL at hfz hlv1 s4 lv1 hold
        refine ⟨.ref ln, rfl, ln, od, rfl, .inr ⟨_, hfz, fun D hD => ?_⟩⟩
        have nD : D ≠ lv := (ne_of_none hlv1 hD).symm
        have nD2 : D ≠ ln := (ne_of_none hfz hD).symm
        refine lc_keysT (d := ln) (od := od) (kvs := dRows (lev ns n)) (fun i H' => Same HL H' ∧ ∃ ws, H' D = some (.lst ws) ∧ Rows (hid H' [lv, D]) ws ((lev ns n).take i))
          ⟨same_new hD, [], upd_same, .nil⟩ (fun i H' h => h.1 _ _ hfz) (fun i k v qa H2 hk hq h => ?_) (fun H2 h => ?_)
        · obtain ⟨r, hr, rfl⟩ := get_dRows hk
          obtain ⟨s5, ws, hDw, rw'⟩ := h
          rw [rowKey_V] at hq
          refine ⟨rfl, iteT (B := True) ⟨.ref qa, rfl, qa, _, rfl, .inr (SqT.of hq), fun l hl => ?_⟩⟩
          have s6 : Same H2 (upd H2 l (.lst (r.map V.int))) := same_new hl
          have nl1 : l ≠ lv := (ne_of_none (s5 _ _ hlv1) hl).symm
          have nl2 : l ≠ D := (ne_of_none hDw hl).symm
          refine ⟨ws, s6 _ _ hDw, lineB (by rw [pd_len rw', List.length_take]; omega), same_upd2 (s5.trans s6) hD, _, upd_same, ?_⟩
          rw [hid_upd (by simp), List.take_add_one, hr]
          refine pd_app (rw'.mono (Same.lsts (hid_mono s6))) (.cons ⟨l, rfl, ?_⟩ .nil)
          unfold Lst
          rw [hid_out (by simp [nl1, nl2]), upd_same]
        · obtain ⟨s5, ws, hDw, rw'⟩ := h
          rw [dRows_length, List.take_length] at rw'
          refine ⟨s5 _ _ hfz, ?_⟩
          have ls2 : Lsts H2 (upd H2 ln (.dT (dRows (lev ns n)))) := lsts_frz (s5 _ _ hfz)
          have hlv2 := ls2 _ _ (s5 _ _ hlv1)
          have hD2 := ls2 _ _ hDw
          have hln2 : (upd H2 ln (.dT (dRows (lev ns n)))) ln = some (.dT (dRows (lev ns n))) := upd_same
          have s6 : Same H (upd H2 ln (.dT (dRows (lev ns n)))) := same_upd2 (s4.trans s5) hlnH
          have lv2 := lv1.mono ((Same.lsts (hid_mono s5)).trans (hid_lsts (xs := [lv]) ls2))
          have rw2 := rw'.mono (hid_lsts (xs := [lv, D]) ls2)
          generalize upd H2 ln (.dT (dRows (lev ns n))) = H3 at hlv2 hD2 hln2 s6 lv2 rw2
          have lz : zs.length = n := by rw [pd_len lv2, List.length_map, List.length_range]
          have nsq := ok.sq
          refine ⟨lv, zs, _, rfl, rfl, hlv2, lineB (by omega), ?_⟩
          have hlv3 : (upd H3 lv (.lst (zs ++ [.ref D]))) lv = some (.lst (zs ++ [.ref D])) := upd_same
          have hD3 : (upd H3 lv (.lst (zs ++ [.ref D]))) D = some (.lst ws) := by rw [upd_ne nD]; exact hD2
          have hln3 : (upd H3 lv (.lst (zs ++ [.ref D]))) ln = some (.dT (dRows (lev ns n))) := by rw [upd_ne nlv]; exact hln2
          have s7 : Same H (upd H3 lv (.lst (zs ++ [.ref D]))) := same_upd2 s6 hlv
          have rw3 : Rows (hid (upd H3 lv (.lst (zs ++ [.ref D]))) [lv]) ws (lev ns n) := by
            rw [hid_upd (by simp)]
            exact rw2.mono (Same.lsts (hid_less (by simp)))
          have lv3 : Lvs (hid (upd H3 lv (.lst (zs ++ [.ref D]))) [lv]) (zs ++ [.ref D]) ((List.range (n + 1)).map (lev ns)) := by
            rw [List.range_succ, List.map_append]
            refine pd_app (by rw [hid_upd (by simp)]; exact lv2) (.cons ⟨D, ws, rfl, ?_, rw3⟩ .nil)
            rw [hid_out (by simp [nD])]
            exact hD3
          generalize upd H3 lv (.lst (zs ++ [.ref D])) = H4 at hlv3 hD3 hln3 s7 rw3 lv3
          -- more = {}
          refine fun mo hmo => ?_
          have s8 : Same H4 (upd H4 mo (.dT [])) := same_new hmo
          have hmoH : H mo = none := s7.free hmo
          have hmo5 : (upd H4 mo (.dT [])) mo = some (.dT (dRows (levN (lev ns n) 0))) := upd_same
          generalize upd H4 mo (.dT []) = H5 at s8 hmo5
          have nmo : mo ≠ lv := (ne_of_none hlv3 hmo).symm
          have hD5 := s8 _ _ hD3
          refine ⟨.ref lv, rfl, 1, rfl, lv, _, -1, .ref D, rfl, rfl, SqL.of (s8 _ _ hlv3), atI_last _ _, D, rfl, ⟨_, SqL.of hD5⟩, ?_⟩
          -- for some in levels[-1]
          refine for_list (K := K) (a := D) (xs := ws)
            (fun i σ H' => ∃ y4 y5, σ = [some (.ref a), some (.ref lv), some (.ref ln), some (.ref mo), y4, y5] ∧ Same H4 H' ∧ H' mo = some (.dT (dRows (levN (lev ns n) i))))
            ⟨_, _, rfl, s8, hmo5⟩ (fun i σ H' _ h => ?_) (fun i x σ H6 hx h => ?_) (fun σ H6 h => ?_)
          · obtain ⟨_, _, _, s9, _⟩ := h
            exact SqL.of (s9 _ _ hD3)
          · obtain ⟨y4, y5, rfl, s9, hmo6⟩ := h
            obtain ⟨r, hr, b, rfl, hb⟩ := pd_at rw3 hx
            have hbr : Lst H4 b r := hid_same _ _ _ _ hb
            have rch := mem_lev.mp (List.mem_of_getElem? hr)
            have okr : Small r := rch.ok ok
            refine ⟨.ref b, rfl, b, r, rfl, (hbr.mono s9).sq, okr.row12, fun H7 p ps s10 hp hps pr => ⟨p, rfl, ⟨_, SqL.of hps⟩, ?_⟩⟩
            have nmp : mo ≠ p := fun e => by rw [e, hp] at hmo6; cases hmo6
            refine for_list (K := K) (a := p) (xs := ps)
              (fun j σ H' => ∃ y5, σ = [some (.ref a), some (.ref lv), some (.ref ln), some (.ref mo), some (.ref b), y5] ∧ Same H4 H' ∧ H' mo = some (.dT (dRows (((kids r).take j).foldl ins (levN (lev ns n) i)))) ∧
                H' p = some (.lst ps) ∧ Prs H' ps (evs r))
              ⟨_, rfl, s9.trans s10, s10 _ _ hmo6, hps, pr⟩ (fun j σ H' _ h => ?_) (fun j x σ H8 hx2 h => ?_) (fun σ H8 h => ?_)
            · obtain ⟨_, _, _, _, h5, _⟩ := h
              exact SqL.of h5
            · obtain ⟨y5, rfl, s11, hmo8, hp8, pr8⟩ := h
              obtain ⟨pp, hpp, tt, rfl, htt⟩ := prs_at pr8 hx2
              have hpe := List.mem_of_getElem? hpp
              refine ⟨.ref mo, rfl, .ref b, rfl, .ref tt, rfl, b, tt, r, pp, rfl, (hbr.mono s11).sq, htt, hpe, okr.row12, fun H9 e s12 he hE => ?_⟩
              refine ⟨e, _, rfl, .inl ⟨hE.sq, fun t2 ht2 => ?_⟩⟩
              have s13 : Same H9 (upd H9 t2 (.tup ((behP r pp).map V.int))) := same_new ht2
              have hmo9 := s13 _ _ (s12 _ _ hmo8)
              have hkid : (kids r)[j]? = some (behP r pp) := by unfold kids; rw [List.getElem?_map, hpp]; rfl
              have cnt2 : (((kids r).take j).foldl ins (levN (lev ns n) i)).length ≤ 4084101 := by
                refine count_le ok (nd_insAll (nd_levN _ _)) fun z hz => ?_
                rcases mem_insAll.mp hz with hz | hz
                · obtain ⟨q2, hq2, hzk⟩ := mem_levN.mp hz
                  obtain ⟨p2, hp2, rfl⟩ := mem_kids.mp hzk
                  exact ⟨n + 1, .step (mem_lev.mp (List.mem_of_mem_take hq2)) hp2⟩
                · obtain ⟨p2, hp2, rfl⟩ := mem_kids.mp (List.mem_of_mem_take hz)
                  exact ⟨n + 1, .step rch hp2⟩
              refine ⟨mo, _, rfl, DPut.t (k := rowKey (behP r pp)) hmo9 (by rw [rowKey_V]; exact upd_same) (lineB (by rw [dRows_length]; omega)), ?_⟩
              rw [put_dRows]
              have s14 : Same H8 (upd H9 t2 (.tup ((behP r pp).map V.int))) := s12.trans s13
              refine ⟨_, rfl, same_upd2 (s11.trans s14) hmo, ?_, ?_, ?_⟩
              · rw [upd_same, List.take_add_one, hkid, List.foldl_append]
                rfl
              · rw [upd_ne nmp.symm]
                exact s14 _ _ hp8
              · exact pr8.mono ((Same.tups s14).trans (tups_dT hmo9))
            · obtain ⟨y5, rfl, s11, hmo8, hp8, pr8⟩ := h
              refine ⟨_, _, rfl, s11, ?_⟩
              rw [hmo8, levN_succ hr, List.take_of_length_le (by unfold kids; rw [List.length_map, ← pd_len pr]; exact Nat.le_refl _)]
          · obtain ⟨y4, y5, rfl, s9, hmo6⟩ := h
            refine ⟨.ref mo, rfl, ?_⟩
            refine ⟨_, mo, _, _, _, rfl, s7.trans s9, s9 _ _ hlv3, ?_, lv3.mono (Same.lsts (hid_mono s9)), hmoH⟩
            rw [hmo6, pd_len rw3, levN_all]
            rfl
      · -- the end
        have c1 : lev ns n = [] := by
          have c0 : ¬ 0 < (dRows (lev ns n)).length := fun z => c (decide_eq_true (by omega))
          rw [dRows_length] at c0
          exact List.length_eq_zero_iff.mp (by omega)
        exact ⟨.ref lv, rfl, q H1 lv zs n sA hlv hlvA (lvA.mono (Same.lsts (hid_same _ _))) c1 hne⟩
end
end EG

/-! Evenings one behind another; what is kept; entries of a row and its evenings. -/
namespace EG
open PySem L2
def stepE (r : Rw) (p : Pr) : Option Rw := if p ∈ evs r then some (behP r p) else none
def rbeh (ns : Rw) (ps : List Pr) : Option Rw := ps.foldl (fun o p => o.bind (stepE · p)) (some ns)
theorem rbeh_nil (ns : Rw) : rbeh ns [] = some ns := rfl
theorem rbeh_snoc (ns : Rw) (ps : List Pr) (p : Pr) : rbeh ns (ps ++ [p]) = (rbeh ns ps).bind (stepE · p) := by
  unfold rbeh
  rw [List.foldl_append]
  rfl
theorem fold_none : ∀ ps : List Pr, ps.foldl (fun o p => o.bind (stepE · p)) (none : Option Rw) = none
  | [] => rfl
  | _ :: ps => fold_none ps
theorem rbeh_app_none {ns : Rw} {ps : List Pr} (qs : List Pr) (h : rbeh ns ps = none) : rbeh ns (ps ++ qs) = none := by
  unfold rbeh at h ⊢
  rw [List.foldl_append, h]
  exact fold_none qs
theorem rbeh_take {ns : Rw} {ps : List Pr} {i : Nat} {p : Pr} (h : ps[i]? = some p) : rbeh ns (ps.take (i + 1)) = (rbeh ns (ps.take i)).bind (stepE · p) := by
  rw [List.take_add_one, h]
  exact rbeh_snoc ns _ p
theorem rbeh_none {ns : Rw} {ps : List Pr} {i : Nat} (h : rbeh ns (ps.take i) = none) : rbeh ns ps = none := by
  have := rbeh_app_none (ps.drop i) h
  rwa [List.take_append_drop] at this
theorem rbeh_step {ns q : Rw} {ps : List Pr} {p : Pr} (h : rbeh ns ps = some q) (hp : p ∈ evs q) : rbeh ns (ps ++ [p]) = some (behP q p) := by
  rw [rbeh_snoc, h]
  exact if_pos hp
theorem rbeh_rch {ns : Rw} : ∀ (n : Nat) {ps : List Pr} {r : Rw}, ps.length = n → rbeh ns ps = some r → Rch ns n r
  | 0, ps, r, hl, h => by
    have e : ps = [] := List.length_eq_zero_iff.mp hl
    subst e
    cases h
    exact .zero _
  | n + 1, ps, r, hl, h => by
    have hne : ps ≠ [] := fun e => by subst e; cases hl
    have e := List.dropLast_concat_getLast hne
    rw [← e, rbeh_snoc] at h
    cases e2 : rbeh ns ps.dropLast with
    | none => rw [e2] at h; cases h
    | some q =>
      rw [e2] at h
      have h2 : stepE q (ps.getLast hne) = some r := h
      unfold stepE at h2
      split at h2
      · rename_i c
        cases h2
        exact .step (rbeh_rch n (by rw [List.length_dropLast]; omega) e2) c
      · cases h2
def alikeB (r : Rw) : Bool := decide ((dcount r : Int) = 1)
/-- lists and tuples stand as before -/
structure Keep (H H' : Hp) : Prop where
  l : Lsts H H'
  t : TupS H H'
theorem Keep.refl (H : Hp) : Keep H H := ⟨.refl H, .refl H⟩
theorem Keep.trans {H H1 H2 : Hp} (a : Keep H H1) (b : Keep H1 H2) : Keep H H2 := ⟨a.l.trans b.l, a.t.trans b.t⟩
theorem Same.keep {H H' : Hp} (s : Same H H') : Keep H H' := ⟨Same.lsts s, Same.tups s⟩
theorem keep_dT {H : Hp} {p : Addr} {kvs : List (List Key × V)} {o : HO} (h : H p = some (.dT kvs)) : Keep H (upd H p o) := ⟨lsts_dT h, tups_dT h⟩
theorem hid_keep {H H' : Hp} {xs : List Addr} (s : Keep H H') : Keep (hid H xs) (hid H' xs) := ⟨hid_lsts s.l, fun b o e => by
  unfold hid at e ⊢
  split at e
  · cases e
  · rename_i c
    rw [if_neg c]
    exact s.t _ _ e⟩
/-- a list is changed that did not stand ahead -/
theorem keep_upd {H H' : Hp} {p : Addr} {o : HO} (s : Keep H H') (h : H p = none) : Keep H (upd H' p o) := ⟨fun b xs e => by
  rw [upd_ne (ne_of_none e h)]; exact s.l _ _ e, fun b xs e => by
  rw [upd_ne (ne_of_none e h)]; exact s.t _ _ e⟩
abbrev En := Rw × List Pr
def IsEn (H : Hp) (v : V) (e : En) : Prop := ∃ t b g ps, v = .ref t ∧ H t = some (.tup [.ref b, .ref g]) ∧ Lst H b e.1 ∧ H g = some (.lst ps) ∧ Prs H ps e.2
abbrev Ens (H : Hp) : List V → List En → Prop := Paired (IsEn H)
theorem IsEn.mono {H H' : Hp} (s : Keep H H') {v : V} {e : En} (h : IsEn H v e) : IsEn H' v e := by
  obtain ⟨t, b, g, ps, ev, h1, h2, h3, h4⟩ := h
  exact ⟨t, b, g, ps, ev, s.t _ _ h1, s.l _ _ h2, s.l _ _ h3, h4.mono s.t⟩
theorem Ens.mono {H H' : Hp} (s : Keep H H') {vs : List V} {es : List En} (h : Ens H vs es) : Ens H' vs es := Paired.mapP h fun _ _ q => q.mono s
def enD (e : En) : PyData := .tuple [rowD e.1, prsD e.2]
section
variable {K : PySem.W.Frag} {H : Hp}
theorem dp_en {v : V} {e : En} (h : IsEn H v e) : Dp K H v (enD e) := by
  obtain ⟨t, b, g, ps, rfl, h1, h2, h3, h4⟩ := h
  exact .tup (SqT.of h1) (.cons (dp_row h2.sq) (.cons (dp_prs (SqL.of h3) h4) .nil))
theorem dpa_ens : ∀ {vs : List V} {es : List En}, Ens H vs es → DpAll K H vs (es.map enD)
  | _, _, .nil => .nil
  | _, _, .cons r t => .cons (dp_en r) (dpa_ens t)
end
theorem depth_row (ns : List Int) : (rowD ns).depth ≤ 1 := by
  have h := (lay_ints ns).2
  simp only [rowD, PyData.depth]
  omega
theorem depth_prs (ps : List Pr) : (prsD ps).depth ≤ 2 := by
  have h := (lay_prs ps).2
  simp only [prsD, PyData.depth]
  omega
theorem lay_row (ns : List Int) : (rowD ns).canLay0 = true := by simp only [rowD, PyData.canLay0]; exact (lay_ints ns).1
theorem lay_prsD (ps : List Pr) : (prsD ps).canLay0 = true := by simp only [prsD, PyData.canLay0]; exact (lay_prs ps).1
theorem lay_ens : ∀ es : List En, PyData.canLayAll0 (es.map enD) = true ∧ PyData.depthAll (es.map enD) ≤ 3
  | [] => by simp [PyData.canLayAll0, PyData.depthAll]
  | e :: es => by
    have ih := lay_ens es
    have h1 := depth_row e.1
    have h2 := depth_prs e.2
    refine ⟨by simp [PyData.canLayAll0, ih.1, enD, PyData.canLay0, lay_row, lay_prsD], ?_⟩
    simp only [List.map_cons, PyData.depthAll, enD, PyData.depth]
    omega
theorem shaped_ens (es : List En) : SeqAt.shaped (.list (es.map enD)) = true := by
  have h := lay_ens es
  unfold SeqAt.shaped
  rw [Bool.and_eq_true]
  refine ⟨by simp only [PyData.canLay0]; exact h.1, decide_eq_true ?_⟩
  simp only [PyData.depth]
  omega
theorem shaped_nil : SeqAt.shaped (.list []) = true := by decide
theorem eqv_nil (ds : List PyData) : PyData.eqv (.list ds) (.list []) = decide (ds = []) := by
  cases ds with
  | nil => simp [PyData.eqv, PyData.eqvAll]
  | cons d ds => simp [PyData.eqv, PyData.eqvAll]
end EG

/-! row_behind, are_alike, way_to_alike. -/
namespace EG
open PySem L2
section
variable {P : Program} {w : World} {K : PySem.W.Frag} {mg : Str → Option Value} {base : Heap}
def sp_row_behind (K : PySem.W.Frag) : Sp := fun vs H Q _ => ∃ (a g : Addr) (ns : List Int) (ws : List V) (ps : List Pr), vs = [.ref a, .ref g] ∧ SqL K H a (ns.map V.int) ∧ ns.length ≤ 12 ∧ H g = some (.lst ws) ∧ Prs H ws ps ∧
  ∀ H' o, Same H H' → SqL K H' o (((rbeh ns ps).getD []).map V.int) → Q (.ref o) H'
theorem ok_row_behind {f : Addr} {fd : FuncData} (F : Fun K "row_behind" "row_behind" s_row_behind f fd) (c_evenings_of : Cal CX0 P w K mg base "evenings_of" ["row"] 1 (sp_evenings_of K))
    (c_behind : Cal CX0 P w K mg base "behind" ["row", "evening"] 1 (sp_behind K)) : FnOk P w K mg base CX0 2 f fd ["row", "some"] (sp_row_behind K) := by
  refine F.ok sc_row_behind (fun vs H Q E h => ?_) (fun cdv A outer s H vs Q E hr h => ?_)
  · obtain ⟨a, g, ns, ws, ps, rfl, _⟩ := h
    rfl
  · obtain ⟨a, g, ns, ws, ps, rfl, hS, hl, hg, pr, q⟩ := h
    refine ⟨_, (pss_cons (ps_for PassesOwn.never rfl (pi_list (pv 1)) (pg_name (i := 2) sc_row_behind.nd rfl (.inl rfl))
    (pss_cons (ps_if (pt_cmpR (r := rNotInD K) (op_notInD (room65 hr)) (pv 2) (pe_cal c_evenings_of hr (by rfl) (pa_cons (pv 0) pa_nil)) (by rfl))
      (pss_one (ps_ret (pe_lst pa_nil)))
      pss_nil)
      (pss_one (ps_set (i := 0) sc_row_behind.nd rfl (.inl rfl) (pe_cal c_behind hr (by rfl) (pa_cons (pv 0) (pa_cons (pv 2) pa_nil)))))))
    (pss_one (ps_ret (pv 0)))), ?_⟩
    refine ⟨.ref g, rfl, g, rfl, ⟨_, SqL.of hg⟩, for_list (K := K) (a := g) (xs := ws)
      (fun i σ H' => ∃ o ms y, σ = [some (.ref o), some (.ref g), y] ∧ Same H H' ∧ SqL K H' o (ms.map V.int) ∧ rbeh ns (ps.take i) = some ms ∧ ms.length ≤ 12)
      ⟨a, ns, none, rfl, Same.refl _, hS, rfl, hl⟩ (fun i σ H' _ h => ?_) (fun i x σ H1 hx h => ?_) (fun σ H1 h => ?_)⟩
    · obtain ⟨_, _, _, _, s1, _⟩ := h
      exact SqL.of (s1 _ _ hg)
    · obtain ⟨o, ms, y, rfl, s1, hO, hrb, hlm⟩ := h
      obtain ⟨p, hp, t, rfl, ht⟩ := prs_at pr hx
      have ht1 := s1 _ _ ht
      refine ⟨.ref t, rfl, .ref o, rfl, o, ms, rfl, hO, hlm, fun H2 z ws2 s2 hz hz2 pz => ?_⟩
      refine ⟨prD p, (evs ms).map prD, dp_prT (SqT.of (s2 _ _ ht1)), dp_prs (SqL.of hz2) pz, shaped_pr _, shaped_prs _, _, rfl, ?_⟩
      rw [any_prs]
      by_cases c : p ∈ evs ms
      · rw [decide_eq_true c]
        refine iteF ?_
        obtain ⟨i', j', ep, hij, hj, hgd⟩ := mem_evs.mp c
        subst ep
        refine ⟨.ref o, rfl, .ref t, rfl, o, t, ms, i', j', rfl, s2.seq hO, SqT.of (s2 _ _ ht1), by omega, hj, hlm, fun H3 u s3 hu hU => ?_⟩
        refine ⟨u, _, _, rfl, (s1.trans s2).trans s3, hU.sq, ?_, by rw [beh_length]; exact hlm⟩
        rw [rbeh_take hp, hrb]
        exact if_pos c
      · rw [decide_eq_false c]
        refine iteT ?_
        refine ⟨Nat.zero_le _, fun l hl2 => ?_⟩
        refine q _ l ((s1.trans s2).trans (same_new hl2)) ?_
        have e : rbeh ns ps = none := by
          refine rbeh_none (i := i + 1) ?_
          rw [rbeh_take hp, hrb]
          exact if_neg c
        rw [e]
        exact SqL.of upd_same
    · obtain ⟨o, ms, y, rfl, s1, hO, hrb, hlm⟩ := h
      rw [List.take_of_length_le (by rw [pd_len pr]; exact Nat.le_refl _)] at hrb
      refine ⟨.ref o, rfl, q H1 o s1 ?_⟩
      rw [hrb]
      exact hO
def sp_are_alike (K : PySem.W.Frag) : Sp := fun vs H Q _ => ∃ (a : Addr) (ns : List Int), vs = [.ref a] ∧ SqL K H a (ns.map V.int) ∧ ns.length ≤ 4000 ∧ Q (.bl (alikeB ns)) H
theorem ok_are_alike {f : Addr} {fd : FuncData} (F : Fun K "are_alike" "are_alike" s_are_alike f fd) (B : Blt mg) : FnOk P w K mg base CX0 1 f fd ["row"] (sp_are_alike K) := by
  refine F.ok sc_are_alike (fun vs H Q E h => ?_) (fun cdv A outer s H vs Q E hr h => ?_)
  · obtain ⟨a, ns, rfl, _⟩ := h
    rfl
  · obtain ⟨a, ns, rfl, hS, hl, q⟩ := h
    refine ⟨_, (pss_one (ps_ret (pe_cmpR op_eq (pe_lenSetG (by rfl) B.len (by rfl) B.set (pv 0)) pe_int (nomark _)))), ?_⟩
    refine ⟨.ref a, rfl, a, ns, rfl, hS, hl, rfl, ?_⟩
    rw [dec_int]
    exact q
def sp_way : Sp := fun vs H Q _ => ∃ (a : Addr) (ns : List Int), vs = [.ref a] ∧ Lst H a ns ∧ Small ns ∧
  (∀ H', Same H H' → (∀ n r, Rch ns n r → alikeB r = false) → Q .non H') ∧
  ∀ H' g ps path r, Same H H' → H' g = some (.lst ps) → Prs H' ps path → rbeh ns path = some r → alikeB r = true → (∀ n r', n < path.length → Rch ns n r' → alikeB r' = false) → Q (.ref g) H'
theorem ok_way {f : Addr} {fd : FuncData} (F : Fun K "way_to_alike" "way_to_alike" s_way_to_alike f fd) (B : Blt mg) (c_evenings_of : Cal CX0 P w K mg base "evenings_of" ["row"] 1 (sp_evenings_of K))
    (c_behind : Cal CX0 P w K mg base "behind" ["row", "evening"] 1 (sp_behind K)) (c_are_alike : Cal CX0 P w K mg base "are_alike" ["row"] 1 (sp_are_alike K)) : FnOk P w K mg base CX0 2 f fd ["row"] sp_way := by
  refine F.ok sc_way_to_alike (fun vs H Q E h => ?_) (fun cdv A outer s H vs Q E hr h => ?_)
  · obtain ⟨a, ns, rfl, _⟩ := h
    rfl
  · obtain ⟨a, ns, rfl, hS, ok, qN, qA⟩ := h
    refine ⟨_, (pss_cons (ps_par (i := 1) (j := 2) rfl sc_way_to_alike.nd rfl rfl (by decide) rfl rfl (pa_cons (pe_lst (pa_cons (pe_tup (pa_cons (pv 0) (pa_cons (pe_lst pa_nil) pa_nil))) pa_nil)) (pa_cons (pe_dispT (hu_of hr) (pe_callTy (r := rTupOf K) call_tuple_of (by rfl) B.tuple PyProof.Rows.boot_tuple (pa_cons (pv 0) pa_nil)) pe_bl) pa_nil)) (by rfl))
    (pss_cons (ps_while PassesOwn.never (pt_cmpR (r := rNeD K) (op_neD hr.units) (pv 1) (pe_lst pa_nil) (nomark _))
    (pss_cons (ps_set (i := 3) sc_way_to_alike.nd rfl (.inl rfl) (pe_lst pa_nil))
      (pss_cons (ps_for PassesOwn.never rfl (pi_list (pv 1)) (pg_tup rfl (pgs_cons (pg_name (i := 4) sc_way_to_alike.nd rfl (.inl rfl)) (pgs_cons (pg_name (i := 5) sc_way_to_alike.nd rfl (.inl rfl)) pgs_nil)))
      (pss_cons (ps_if (pt_val (pe_cal c_are_alike hr (by rfl) (pa_cons (pv 4) pa_nil)))
        (pss_one (ps_ret (pv 5)))
        pss_nil)
        (pss_one (ps_for PassesOwn.never rfl (pi_list (pe_cal c_evenings_of hr (by rfl) (pa_cons (pv 4) pa_nil))) (pg_name (i := 6) sc_way_to_alike.nd rfl (.inl rfl))
        (pss_cons (ps_set (i := 7) sc_way_to_alike.nd rfl (.inl rfl) (pe_cal c_behind hr (by rfl) (pa_cons (pv 4) (pa_cons (pv 6) pa_nil))))
          (pss_one (ps_if (pt_cmp (pc_dnotin (hu_of hr) (pe_callTy (r := rTupOf K) call_tuple_of (by rfl) B.tuple PyProof.Rows.boot_tuple (pa_cons (pv 7) pa_nil)) (pv 2)))
          (pss_cons (ps_dput (hu_of hr) (pv 2) (pe_callTy (r := rTupOf K) call_tuple_of (by rfl) B.tuple PyProof.Rows.boot_tuple (pa_cons (pv 7) pa_nil)) pe_bl rfl)
            (pss_one (ps_expr (pe_bm PySem.F.plainAttrs_list PySem.F.slot_list_append PySem.F.type_list_append mt_append (pv 3) (pa_cons (pe_tup (pa_cons (pv 7) (pa_cons (pe_op op_cat (pv 5) (pe_lst (pa_cons (pv 6) pa_nil))) pa_nil))) pa_nil)))))
          pss_nil)))))))
      (pss_one (ps_set (i := 1) sc_way_to_alike.nd rfl (.inl rfl) (pv 3))))))
    (pss_one (ps_ret pe_non)))), ?_⟩
    -- line, met
    refine ⟨.ref a, rfl, Nat.zero_le _, fun g0 hg0 => ⟨(by show 2 ≤ sizeLine; decide), fun t0 ht0 => ⟨(by show 1 ≤ sizeLine; decide), fun li hli => ?_⟩⟩⟩
    have s0 : Same H (upd (upd (upd H g0 (.lst [])) t0 (.tup [.ref a, .ref g0])) li (.lst [.ref t0])) := ((same_new hg0).trans (same_new ht0)).trans (same_new hli)
    have hg1 : (upd (upd (upd H g0 (.lst [])) t0 (.tup [.ref a, .ref g0])) li (.lst [.ref t0])) g0 = some (.lst []) := (same_new hli) _ _ ((same_new ht0) _ _ upd_same)
    have ht1 : (upd (upd (upd H g0 (.lst [])) t0 (.tup [.ref a, .ref g0])) li (.lst [.ref t0])) t0 = some (.tup [.ref a, .ref g0]) := (same_new hli) _ _ upd_same
    have hli1 : (upd (upd (upd H g0 (.lst [])) t0 (.tup [.ref a, .ref g0])) li (.lst [.ref t0])) li = some (.lst [.ref t0]) := upd_same
    generalize upd (upd (upd H g0 (.lst [])) t0 (.tup [.ref a, .ref g0])) li (.lst [.ref t0]) = H1 at s0 hg1 ht1 hli1
    refine fun me hme => ?_
    have hmeH : H me = none := s0.free hme
    have s2 : Same H1 (upd H1 me (.dT [])) := same_new hme
    refine ⟨.ref a, rfl, a, _, rfl, .inl ⟨((hS.mono s0).mono s2).sq, fun t ht => ?_⟩⟩
    have s3 : Same (upd H1 me (.dT [])) (upd (upd H1 me (.dT [])) t (.tup (ns.map V.int))) := same_new ht
    have hme3 := s3 _ _ (show (upd H1 me (.dT [])) me = some (.dT []) from upd_same)
    refine ⟨t, rowKey ns, rfl, hme3, by rw [rowKey_V]; exact upd_same, _, _, rfl, ?_⟩
    have k4 : Keep H1 (upd (upd (upd H1 me (.dT [])) t (.tup (ns.map V.int))) me (.dT [(rowKey ns, .bl true)])) := (Same.keep (s2.trans s3)).trans (keep_dT hme3)
    have s4 : Same H (upd (upd (upd H1 me (.dT [])) t (.tup (ns.map V.int))) me (.dT [(rowKey ns, .bl true)])) := same_upd2 ((s0.trans s2).trans s3) hmeH
    have hme4 : (upd (upd (upd H1 me (.dT [])) t (.tup (ns.map V.int))) me (.dT [(rowKey ns, .bl true)])) me = some (.dT (dRows [ns])) := upd_same
    generalize upd (upd (upd H1 me (.dT [])) t (.tup (ns.map V.int))) me (.dT [(rowKey ns, .bl true)]) = H4 at k4 s4 hme4
    refine ⟨fun m σ H' => ∃ n li ws es M y3 y4 y5 y6 y7, ∃ Pc : Rw → Prop, n + m = (sq ns).toNat + 2 ∧ σ = [some (.ref a), some (.ref li), some (.ref me), y3, y4, y5, y6, y7] ∧ Same H H' ∧ H' li = some (.lst ws) ∧ Ens H' ws es ∧
        H' me = some (.dT (dRows M)) ∧ M.Nodup ∧ (∀ x ∈ M, ∃ k, Rch ns k x) ∧ (∀ r, Pc r → alikeB r = false ∧ ∀ p ∈ evs r, behP r p ∈ M) ∧ (∀ k r, k < n → Rch ns k r → Pc r) ∧ (∀ r, Rch ns n r → r ∈ M) ∧
        (∀ r ∈ M, Pc r ∨ ∃ path, (r, path) ∈ es) ∧ ∀ e ∈ es, rbeh ns e.2 = some e.1 ∧ e.2.length = n,
      ⟨(sq ns).toNat + 2, 0, li, _, [(ns, [])], [ns], none, none, none, none, none, fun _ => False, by omega, rfl, s4, k4.l _ _ hli1, .cons ⟨t0, a, g0, [], rfl, k4.t _ _ ht1, hS.mono s4, k4.l _ _ hg1, .nil⟩ .nil, hme4,
        List.nodup_cons.mpr ⟨List.not_mem_nil, List.nodup_nil⟩, fun x hx => ?_, fun _ z => z.elim, fun k r hk _ => absurd hk (by omega), fun r hr => ?_, fun r hr => ?_, fun e he => ?_⟩, fun m σ H5 h => ?_⟩
    · rw [List.mem_singleton.mp hx]
      exact ⟨0, .zero _⟩
    · cases hr
      exact List.mem_singleton.mpr rfl
    · rw [List.mem_singleton.mp hr]
      exact .inr ⟨[], List.mem_singleton.mpr rfl⟩
    · rw [List.mem_singleton.mp he]
      exact ⟨rfl, rfl⟩
    · obtain ⟨n, li, ws, es, M, y3, y4, y5, y6, y7, Pc, em, rfl, s5, hli5, en5, hme5, ndM, mR, pA, pB, pB2, pC, pD⟩ := h
      -- line != []
      refine ⟨.ref li, rfl, Nat.zero_le _, fun z hz => ?_⟩
      have s6 : Same H5 (upd H5 z (.lst [])) := same_new hz
      refine ⟨.list (es.map enD), .list [], .lst (SqL.of (s6 _ _ hli5)) (dpa_ens (en5.mono (Same.keep s6))), .lst (SqL.of upd_same) .nil, shaped_ens _, shaped_nil, _, rfl, ?_⟩
      rw [eqv_nil]
      have s7 : Same H (upd H5 z (.lst [])) := s5.trans s6
      have hli6 := s6 _ _ hli5
      have hme6 := s6 _ _ hme5
      have en6 := en5.mono (Same.keep s6)
      generalize upd H5 z (.lst []) = H6 at s7 hli6 hme6 en6
      by_cases ce : es = []
      · -- none
        subst ce
        refine itN (by simp) ?_
        refine qN H6 s7 fun k r hk => ?_
        have all : ∀ k r, Rch ns k r → Pc r := by
          intro k r hk
          have inM : ∀ x ∈ M, Pc x := fun x hx => by
            rcases pC x hx with h | ⟨_, h⟩
            · exact h
            · cases h
          induction hk with
          | zero =>
            rcases Nat.eq_zero_or_pos n with h0 | h0
            · subst h0
              exact inM _ (pB2 _ (.zero _))
            · exact pB 0 _ h0 (.zero _)
          | step h hp ih => exact inM _ ((pA _ ih).2 _ hp)
        exact (pA r (all k r hk)).1
      · refine itP (by rw [decide_eq_false (fun z => ce (List.map_eq_nil_iff.mp z))]; rfl) ?_
        have hn : n ≤ (sq ns).toNat := by
          obtain ⟨e, es', rfl⟩ := List.exists_cons_of_ne_nil ce
          obtain ⟨h1, h2⟩ := pD e List.mem_cons_self
          exact (rbeh_rch n h2 h1).bound
        have hsq := ok.sq
        refine ⟨fun σ' H' => ∃ m', m' < m ∧ ∃ n li ws es M y3 y4 y5 y6 y7, ∃ Pc : Rw → Prop, n + m' = (sq ns).toNat + 2 ∧ σ' = [some (.ref a), some (.ref li), some (.ref me), y3, y4, y5, y6, y7] ∧ Same H H' ∧ H' li = some (.lst ws) ∧ Ens H' ws es ∧
          H' me = some (.dT (dRows M)) ∧ M.Nodup ∧ (∀ x ∈ M, ∃ k, Rch ns k x) ∧ (∀ r, Pc r → alikeB r = false ∧ ∀ p ∈ evs r, behP r p ∈ M) ∧ (∀ k r, k < n → Rch ns k r → Pc r) ∧ (∀ r, Rch ns n r → r ∈ M) ∧
          (∀ r ∈ M, Pc r ∨ ∃ path, (r, path) ∈ es) ∧ ∀ e ∈ es, rbeh ns e.2 = some e.1 ∧ e.2.length = n, fun σ' H' h => h, ?_⟩
        -- longer = []
        refine ⟨Nat.zero_le _, fun lo hlo => ?_⟩
        have s8 : Same H6 (upd H6 lo (.lst [])) := same_new hlo
        have hloH : H lo = none := s7.free hlo
        have hme7 := s8 _ _ hme6
        have hlo7 : (upd H6 lo (.lst [])) lo = some (.lst []) := upd_same
        generalize upd H6 lo (.lst []) = H7 at s8 hme7 hlo7
        have nlm : lo ≠ me := (ne_of_none hme6 hlo).symm
        refine ⟨.ref li, rfl, li, rfl, ⟨_, SqL.of (s8 _ _ hli6)⟩, for_list (K := K) (a := li) (xs := ws)
          (fun i σ H' => ∃ wl el M' y4 y5 y6 y7, σ = [some (.ref a), some (.ref li), some (.ref me), some (.ref lo), y4, y5, y6, y7] ∧ Same H H' ∧ Keep H6 H' ∧ H' lo = some (.lst wl) ∧ Ens (hid H' [lo]) wl el ∧ H' me = some (.dT (dRows M')) ∧
            M'.Nodup ∧ (∀ x ∈ M', ∃ k, Rch ns k x) ∧ (∀ x ∈ M, x ∈ M') ∧ (∀ x ∈ M', x ∈ M ∨ ∃ path, (x, path) ∈ el) ∧ (∀ e ∈ el, rbeh ns e.2 = some e.1 ∧ e.2.length = n + 1) ∧ el.length ≤ M'.length ∧
            ∀ k e, k < i → es[k]? = some e → alikeB e.1 = false ∧ ∀ p ∈ evs e.1, behP e.1 p ∈ M')
          ⟨[], [], M, _, _, _, _, rfl, s7.trans s8, Same.keep s8, hlo7, .nil, hme7, ndM, mR, fun _ h => h, fun _ h => .inl h, fun _ h => (nomatch h), Nat.zero_le _, fun k _ hk _ => absurd hk (by omega)⟩ (fun i σ H' _ h => ?_) (fun i x σ H8 hx h => ?_) (fun σ H8 h => ?_)⟩
        · obtain ⟨_, _, _, _, _, _, _, _, _, k8, _⟩ := h
          exact SqL.of (k8.l _ _ hli6)
        · obtain ⟨wl, el, M', y4, y5, y6, y7, rfl, s9, k9, hlo8, en8, hme8, nd8, mR8, sub8, or8, pD8, ll8, dn8⟩ := h
          obtain ⟨⟨r, path⟩, he, t, b, g, ps, rfl, ht, hb, hg, pr⟩ := pd_at en6 hx
          obtain ⟨rb, pl⟩ : rbeh ns path = some r ∧ path.length = n := pD _ (List.mem_of_getElem? he)
          have rch := rbeh_rch n pl rb
          have okr : Small r := rch.ok ok
          have hb8 : Lst H8 b r := k9.l _ _ hb
          have hg8 := k9.l _ _ hg
          refine ⟨t, _, rfl, SqT.of (k9.t _ _ ht), rfl, _, _, rfl, _, _, rfl, rfl, ?_⟩
          -- are they alike
          refine ⟨.ref b, rfl, b, r, rfl, hb8.sq, by have := okr.len5; omega, _, rfl, ?_⟩
          cases ca : alikeB r with
          | true =>
            refine iteT ⟨.ref g, rfl, qA H8 g ps path r s9 hg8 (pr.mono k9.t) rb ca fun k r' hk hr' => ?_⟩
            exact (pA r' (pB k r' (by omega) hr')).1
          | false =>
            refine iteF ?_
            refine ⟨.ref b, rfl, b, r, rfl, hb8.sq, okr.row12, fun H9 p we s10 hp hwe pe => ⟨p, rfl, ⟨_, SqL.of hwe⟩, ?_⟩⟩
            have nlp : lo ≠ p := ne_of_none hlo8 hp
            refine for_list (K := K) (a := p) (xs := we)
              (fun j σ H' => ∃ wl el M' y6 y7, σ = [some (.ref a), some (.ref li), some (.ref me), some (.ref lo), some (.ref b), some (.ref g), y6, y7] ∧ Same H H' ∧ Keep H6 H' ∧ H' lo = some (.lst wl) ∧ Ens (hid H' [lo]) wl el ∧ H' me = some (.dT (dRows M')) ∧
                M'.Nodup ∧ (∀ x ∈ M', ∃ k, Rch ns k x) ∧ (∀ x ∈ M, x ∈ M') ∧ (∀ x ∈ M', x ∈ M ∨ ∃ path, (x, path) ∈ el) ∧ (∀ e ∈ el, rbeh ns e.2 = some e.1 ∧ e.2.length = n + 1) ∧ el.length ≤ M'.length ∧
                (∀ k e, k < i → es[k]? = some e → alikeB e.1 = false ∧ ∀ p ∈ evs e.1, behP e.1 p ∈ M') ∧ (∀ k p, k < j → (evs r)[k]? = some p → behP r p ∈ M') ∧ H' p = some (.lst we) ∧ Prs H' we (evs r))
              ⟨wl, el, M', _, _, rfl, s9.trans s10, k9.trans (Same.keep s10), s10 _ _ hlo8, en8.mono (Same.keep (hid_mono s10)), s10 _ _ hme8, nd8, mR8, sub8, or8, pD8, ll8, dn8, fun k _ hk _ => absurd hk (by omega), hwe, pe⟩
              (fun j σ H' _ h => ?_) (fun j x σ HA hx2 h => ?_) (fun σ HA h => ?_)
            · obtain ⟨_, _, _, _, _, _, _, _, _, _, _, _, _, _, _, _, _, _, _, hpp, _⟩ := h
              exact SqL.of hpp
            · obtain ⟨wl, el, M', y6, y7, rfl, sA, kA, hloA, enA, hmeA, ndA, mRA, subA, orA, pDA, llA, dnA, jA, hpA, peA⟩ := h
              obtain ⟨pp, hpp, tt, rfl, htt⟩ := prs_at peA hx2
              have hpe := List.mem_of_getElem? hpp
              obtain ⟨i1, j1, epp, hij, hj1, hgd⟩ := mem_evs.mp hpe
              have hbA : Lst HA b r := kA.l _ _ hb
              refine ⟨.ref b, rfl, .ref tt, rfl, b, tt, r, i1, j1, rfl, hbA.sq, ?_, by omega, hj1, okr.row12, fun HB th sB hth hTh => ?_⟩
              · rw [epp] at htt
                exact SqT.of htt
              have eb : beh r i1 j1 = behP r pp := by rw [epp]; rfl
              rw [eb] at hTh
              have rch2 : Rch ns (n + 1) (behP r pp) := .step rch hpe
              have cnt : M'.length ≤ 4084101 := count_le ok ndA mRA
              -- tuple(there) not in met
              refine ⟨.ref th, rfl, th, _, rfl, .inl ⟨hTh.sq, fun t3 ht3 => ?_⟩⟩
              have sC : Same HB (upd HB t3 (.tup ((behP r pp).map V.int))) := same_new ht3
              have hmeC := sC _ _ (sB _ _ hmeA)
              have ht3C : (upd HB t3 (.tup ((behP r pp).map V.int))) t3 = some (.tup ((rowKey (behP r pp)).map kV)) := by rw [rowKey_V]; exact upd_same
              have sAC : Same HA (upd HB t3 (.tup ((behP r pp).map V.int))) := sB.trans sC
              have hThC := hTh.mono sC
              generalize upd HB t3 (.tup ((behP r pp).map V.int)) = HC at sC hmeC ht3C sAC hThC
              refine ⟨.ref me, rfl, me, _, rfl, DGet.t (k := rowKey (behP r pp)) hmeC ht3C, _, rfl, ?_⟩
              rw [val_dRows]
              have nloC := sAC _ _ hloA
              by_cases cM : behP r pp ∈ M'
              · refine itN (by rw [decide_eq_true cM]; decide) ?_
                refine ⟨wl, el, M', _, _, rfl, sA.trans sAC, kA.trans (Same.keep sAC), nloC, enA.mono (Same.keep (hid_mono sAC)), hmeC, ndA, mRA, subA, orA, pDA, llA, dnA, fun k p2 hk hk2 => ?_, sAC _ _ hpA, peA.mono (Same.tups sAC)⟩
                by_cases ek : k = j
                · subst ek
                  rw [hpp] at hk2
                  cases hk2
                  exact cM
                · exact jA k p2 (by omega) hk2
              · refine itP (by rw [decide_eq_false cM]; rfl) ?_
                -- met[tuple(there)] = True
                refine ⟨.ref me, rfl, .ref th, rfl, th, _, rfl, .inl ⟨hThC.sq, fun t4 ht4 => ?_⟩⟩
                have sD : Same HC (upd HC t4 (.tup ((behP r pp).map V.int))) := same_new ht4
                refine ⟨me, _, rfl, DPut.t (k := rowKey (behP r pp)) (sD _ _ hmeC) (by rw [rowKey_V]; exact upd_same) (lineB (by rw [dRows_length]; omega)), ?_⟩
                rw [put_dRows]
                have hmeD := sD _ _ hmeC
                have sE : Same H (upd (upd HC t4 (.tup ((behP r pp).map V.int))) me (.dT (dRows (ins M' (behP r pp))))) := same_upd2 ((sA.trans sAC).trans sD) hmeH
                have kE : Keep HA (upd (upd HC t4 (.tup ((behP r pp).map V.int))) me (.dT (dRows (ins M' (behP r pp))))) := (Same.keep (sAC.trans sD)).trans (keep_dT hmeD)
                have kE2 : Keep HC (upd (upd HC t4 (.tup ((behP r pp).map V.int))) me (.dT (dRows (ins M' (behP r pp))))) := (Same.keep sD).trans (keep_dT hmeD)
                have hmeE : (upd (upd HC t4 (.tup ((behP r pp).map V.int))) me (.dT (dRows (ins M' (behP r pp))))) me = some (.dT (dRows (ins M' (behP r pp)))) := upd_same
                generalize upd (upd HC t4 (.tup ((behP r pp).map V.int))) me (.dT (dRows (ins M' (behP r pp)))) = HE at sE kE kE2 hmeE
                have hloE := kE.l _ _ hloA
                have hThE : Lst HE th (behP r pp) := kE2.l _ _ hThC
                have nth : th ≠ lo := fun e => by rw [e] at hth; rw [hloA] at hth; cases hth
                -- gone + [evening]
                refine ⟨.ref lo, rfl, .inl ⟨rfl, _, SqL.of hloE⟩, .ref th, rfl, .ref g, rfl, .ref tt, rfl, (by show 1 ≤ sizeLine; decide), fun l1 hl1 => ?_⟩
                have sF : Same HE (upd HE l1 (.lst [.ref tt])) := same_new hl1
                have hgE := (kA.trans kE).l _ _ hg
                have lps : ps.length = path.length := pd_len pr
                refine ⟨g, l1, ps, [.ref tt], rfl, rfl, sF _ _ hgE, upd_same, Nat.le_of_lt (lineB (by rw [lps, pl]; show n + 1 ≤ 4100000; omega)), fun l2 hl2 => ?_⟩
                have sG : Same (upd HE l1 (.lst [.ref tt])) (upd (upd HE l1 (.lst [.ref tt])) l2 (.lst (ps ++ [.ref tt]))) := same_new hl2
                refine ⟨(by show 2 ≤ sizeLine; decide), fun t5 ht5 => ?_⟩
                have sH : Same (upd (upd HE l1 (.lst [.ref tt])) l2 (.lst (ps ++ [.ref tt]))) (upd (upd (upd HE l1 (.lst [.ref tt])) l2 (.lst (ps ++ [.ref tt]))) t5 (.tup [.ref th, .ref l2])) := same_new ht5
                have sEH : Same HE (upd (upd (upd HE l1 (.lst [.ref tt])) l2 (.lst (ps ++ [.ref tt]))) t5 (.tup [.ref th, .ref l2])) := (sF.trans sG).trans sH
                have h2H : (upd (upd (upd HE l1 (.lst [.ref tt])) l2 (.lst (ps ++ [.ref tt]))) t5 (.tup [.ref th, .ref l2])) l2 = some (.lst (ps ++ [.ref tt])) := sH _ _ upd_same
                have h5H : (upd (upd (upd HE l1 (.lst [.ref tt])) l2 (.lst (ps ++ [.ref tt]))) t5 (.tup [.ref th, .ref l2])) t5 = some (.tup [.ref th, .ref l2]) := upd_same
                have n2 : l2 ≠ lo := fun e => by rw [e] at hl2; rw [sF _ _ hloE] at hl2; cases hl2
                have n5 : t5 ≠ lo := fun e => by rw [e] at ht5; rw [(sF.trans sG) _ _ hloE] at ht5; cases ht5
                generalize upd (upd (upd HE l1 (.lst [.ref tt])) l2 (.lst (ps ++ [.ref tt]))) t5 (.tup [.ref th, .ref l2]) = HH at sEH h2H h5H
                have hloH2 := sEH _ _ hloE
                have lwl : wl.length = el.length := pd_len enA
                refine ⟨lo, wl, _, rfl, rfl, hloH2, lineB (by omega), ?_⟩
                have eM : ins M' (behP r pp) = M' ++ [behP r pp] := if_neg cM
                rw [eM] at hmeE
                have nm2 : me ≠ lo := nlm.symm
                refine ⟨wl ++ [.ref t5], el ++ [(behP r pp, path ++ [pp])], M' ++ [behP r pp], _, _, rfl, same_upd2 (sE.trans sEH) hloH, keep_upd ((kA.trans kE).trans (Same.keep sEH)) hlo, upd_same, ?_, ?_, ?_, ?_, fun x hx => List.mem_append_left _ (subA x hx), ?_, ?_, ?_, ?_, ?_, ?_, ?_⟩
                · rw [hid_upd (by simp)]
                  refine pd_app (enA.mono ((hid_keep kE).trans (Same.keep (hid_mono sEH)))) (.cons ⟨t5, th, l2, ps ++ [.ref tt], rfl, ?_, ?_, ?_, ?_⟩ .nil)
                  · rw [hid_out (by simp [n5])]
                    exact h5H
                  · unfold Lst
                    rw [hid_out (by simp [nth])]
                    exact sEH _ _ hThE
                  · rw [hid_out (by simp [n2])]
                    exact h2H
                  · refine prs_app ?_ (.cons ⟨tt, rfl, ?_⟩ .nil)
                    · refine (pr.mono (H' := hid HH [lo]) fun bq xs hq => ?_)
                      rw [hid_out (by simp; exact ne_of_none hq hlo)]
                      exact sEH _ _ ((kA.trans kE).t _ _ hq)
                    · rw [hid_out (by simp; exact ne_of htt hloA (by intro z; cases z))]
                      exact sEH _ _ (kE.t _ _ htt)
                · rw [upd_ne nm2]
                  exact sEH _ _ hmeE
                · rw [← eM]
                  exact nd_ins ndA
                · intro x hx
                  rcases List.mem_append.mp hx with hx | hx
                  · exact mRA x hx
                  · rw [List.mem_singleton.mp hx]
                    exact ⟨n + 1, rch2⟩
                · intro x hx
                  rcases List.mem_append.mp hx with hx | hx
                  · rcases orA x hx with h | ⟨pa, h⟩
                    · exact .inl h
                    · exact .inr ⟨pa, List.mem_append_left _ h⟩
                  · rw [List.mem_singleton.mp hx]
                    exact .inr ⟨path ++ [pp], List.mem_append_right _ (List.mem_singleton.mpr rfl)⟩
                · intro e he2
                  rcases List.mem_append.mp he2 with he2 | he2
                  · exact pDA e he2
                  · rw [List.mem_singleton.mp he2]
                    exact ⟨rbeh_step rb hpe, by show (path ++ [pp]).length = n + 1; rw [List.length_append]; show path.length + 1 = n + 1; omega⟩
                · rw [List.length_append, List.length_append]
                  exact Nat.add_le_add_right llA _
                · intro k e hk hk2
                  obtain ⟨h1, h2⟩ := dnA k e hk hk2
                  exact ⟨h1, fun p2 hp2 => List.mem_append_left _ (h2 p2 hp2)⟩
                · intro k p2 hk hk2
                  by_cases ek : k = j
                  · subst ek
                    rw [hpp] at hk2
                    cases hk2
                    exact List.mem_append_right _ (List.mem_singleton.mpr rfl)
                  · exact List.mem_append_left _ (jA k p2 (by omega) hk2)
                · rw [upd_ne nlp.symm]
                  exact sEH _ _ (kE.l _ _ hpA)
                · exact (peA.mono kE.t).mono ((Same.tups sEH).trans (tups_lst hloH2))
            · obtain ⟨wl, el, M', y6, y7, rfl, sA, kA, hloA, enA, hmeA, ndA, mRA, subA, orA, pDA, llA, dnA, jA, hpA, peA⟩ := h
              refine ⟨wl, el, M', _, _, _, _, rfl, sA, kA, hloA, enA, hmeA, ndA, mRA, subA, orA, pDA, llA, fun k e hk hk2 => ?_⟩
              by_cases ek : k = i
              · subst ek
                rw [he] at hk2
                cases hk2
                refine ⟨ca, fun p2 hp2 => ?_⟩
                obtain ⟨k2, hk3⟩ := List.mem_iff_getElem?.mp hp2
                have := (List.getElem?_eq_some_iff.mp hk3).1
                exact jA k2 p2 (by rw [pd_len pe]; exact this) hk3
              · exact dnA k e (by omega) hk2
        · obtain ⟨wl, el, M', y4, y5, y6, y7, rfl, s9, k9, hlo8, en8, hme8, nd8, mR8, sub8, or8, pD8, ll8, dn8⟩ := h
          refine ⟨.ref lo, rfl, ?_⟩
          have lw : ws.length = es.length := pd_len en6
          have done : ∀ r path, (r, path) ∈ es → alikeB r = false ∧ ∀ p ∈ evs r, behP r p ∈ M' := fun r path hm => by
            obtain ⟨k, hk⟩ := List.mem_iff_getElem?.mp hm
            have := (List.getElem?_eq_some_iff.mp hk).1
            exact dn8 k _ (by omega) hk
          have nxt : ∀ r, Rch ns n r → Pc r ∨ ∃ path, (r, path) ∈ es := fun r hr => pC r (pB2 r hr)
          refine ⟨m - 1, by omega, n + 1, lo, wl, el, M', _, _, _, _, _, fun r => Pc r ∨ ∃ path, (r, path) ∈ es, by omega, rfl, s9, hlo8, en8.mono (Same.keep (hid_same _ _)), hme8, nd8, mR8, ?_, ?_, ?_, ?_, pD8⟩
          · rintro r (h | ⟨path, h⟩)
            · exact ⟨(pA r h).1, fun p hp => sub8 _ ((pA r h).2 p hp)⟩
            · exact done r path h
          · intro k r hk hr
            by_cases ek : k = n
            · subst ek
              exact nxt r hr
            · exact .inl (pB k r (by omega) hr)
          · intro r hr
            cases hr with
            | @step q _ p hq hp =>
              rcases nxt q hq with h | ⟨path, h⟩
              · exact sub8 _ ((pA q h).2 p hp)
              · exact (done q path h).2 p hp
          · intro r hr
            rcases or8 r hr with h | h
            · exact .inl (pC r h)
            · exact .inr h
end
end EG

/-! The answers' classes: made, asked. -/
namespace EG
open PySem PySem.Spec PyProof.Rows L2
/-- C(), a class without an own __init__ -/
def tMakeN (C : Addr) : TE := fun _ H Q => ∀ x dx, H x = none → H dx = none → dx ≠ x → Q (.ref x) (upd (upd H dx (.own x)) x (.ins C dx []))
section
variable {X : Cx} {C : Addr} {x : Str} {p pos : Pos}
theorem pe_makeN (mk : PySem.W.makesIn X.K C = true) (hi : PySem.W.findIn X.K (.ref C) "__init__" = some (some (.builtin "object.__init__"))) (kp : PySem.W.keepIn X.K (.ref C) = true) (hg : Gl X x) (hm : X.mg x = some (.ref C))
    (hdb : (x == ("__debug__" : Str)) = false := by decide) : PE X (.Call (.Name x p) [] [] pos) (tMakeN C) := by
  refine ⟨fun pins s σ H Q I h => ?_⟩
  refine wpAny_Call_Name_kw (ld_glob I hg hm (PySem.W.callWith_K0 I.kIn kp (wpAny_call ?_)) hdb)
  have q := h (s.heap.objs.size + 1) s.heap.objs.size (I.hok.fresh (Nat.le_succ _)) (I.hok.fresh (Nat.le_refl _)) (Nat.ne_of_lt (Nat.lt_succ_self _))
  have IB := Inv.made (C := C) I
  refine make_map0 I.kIn mk hi (fun self => PySem.W.Looks.of_pure (PySem.W.oi_bind self)) ?_
  have Y := PySem.W.makes_of (M := model X.prog X.w) I.kIn mk
  have gt : ((s.heap.push PySem.W.emptyDict).push (PySem.W.instObj C s.heap.objs.size)).get? (s.heap.objs.size + 1) = some (PySem.W.instObj C s.heap.objs.size) := by
    have z := Heap.get?_push_size (s.heap.push PySem.W.emptyDict) (o := PySem.W.instObj C s.heap.objs.size) rfl
    rwa [Heap.size_push] at z
  have tA : PySem.W.Looks (model X.prog X.w) ((s.heap.push PySem.W.emptyDict).push (PySem.W.instObj C s.heap.objs.size)) (typeOf (.ref (s.heap.objs.size + 1))) (.ref C) := (PySem.W.Looks.ld gt).andThen .now
  have tB : PySem.W.Looks (model X.prog X.w) ((s.heap.push PySem.W.emptyDict).push (PySem.W.instObj C s.heap.objs.size)) (isInstance (.ref (s.heap.objs.size + 1)) (.type "object")) true :=
    tA.andThen (Y.top.keeps fun b o e => Heap.get?_push_of_some _ (Heap.get?_push_of_some _ e))
  refine codeAny_call_builtin PySem.W.oi_plain PySem.W.entry_oi (@PySem.W.check_slot (model X.prog X.w) _ _ _ "object.__init__" "object" "__init__" (.ref (s.heap.objs.size + 1)) [] [] _ PySem.W.oi_kind PySem.W.oi_split tB (PySem.W.oi_args (.ref (s.heap.objs.size + 1))) ?_)
  rw [PySem.W.oi_run]
  exact wpAny_pure (And.intro rfl ⟨V.ref (s.heap.objs.size + 1), _, IB, rfl, q⟩)
end
/-! ### methods and inits of the text, as their callers use them -/
def CalM (CX : CXT) (P : Program) (w : World) (K : PySem.W.Frag) (mg : Str → Option Value) (base : Heap) (C : Addr) (m : Str) (ps : List Str) (k : Nat) (sp : Sp) : Prop :=
  ∃ (f : Addr) (fd : FuncData), FnOk P w K mg base CX k f fd ps sp ∧ Meth K C m f ∧ Binds K fd ps []
def CalI (CX : CXT) (P : Program) (w : World) (K : PySem.W.Frag) (mg : Str → Option Value) (base : Heap) (C : Addr) (ps : List Str) (k : Nat) (sp : Sp) : Prop :=
  ∃ (f : Addr) (fd : FuncData), FnOk P w K mg base CX k f fd ps sp ∧ Mk K C f ∧ Binds K fd ps []
section
variable {X : Cx} {C : Addr} {x m : Str} {ps : List Str} {j k : Nat} {sp : Sp} {o e : Expr} {es : List Expr} {ta : TE} {t : TA} {p pos apos : Pos}
theorem pe_methC {pl : Sem Bool} (c : CalM CX0 X.prog X.w X.K X.mg X.base C m ps j sp) (cl : Cls X.K C) (hr : Room k X.A) (he : PE X o ta) (ha : PA X (e :: es) t) (hj : j ≤ k := by decide)
    (hst : starEach (e :: es) X.env = (false, eval e X.env) :: starEach es X.env := by rfl) (hpl : (backTo pos (starEach es X.env)).any (·.1) = false := by rfl)
    (ht : eval (.Call (.Attribute o m apos) (e :: es) [] pos) X.env = (do
      let ov ← eval o X.env
      standAt apos.atName
      let (f, first) ← holding [ov] (getMethod ov m pl)
      callWith pos f first (backTo pos (starEach (e :: es) X.env)) (backToKw pos (keywordEach [] X.env))) := by rfl) :
    PE X (.Call (.Attribute o m apos) (e :: es) [] pos) (tMeth C m sp [] E0 ta t) := by
  obtain ⟨f, fd, F, mf, bf⟩ := c
  exact pe_meth (pl := pl) he cl mf F (hr.mono hj) bf .nil pass0 ha hst hpl ht
theorem pe_makeC (c : CalI CX0 X.prog X.w X.K X.mg X.base C ps j sp) (hr : Room k X.A) (hg : Gl X x) (hm : X.mg x = some (.ref C)) (ha : PA X (e :: es) t) (hj : j + 1 ≤ k := by decide) (hdb : (x == ("__debug__" : Str)) = false := by decide)
    (he : starEach (e :: es) X.env = (false, eval e X.env) :: starEach es X.env := by rfl) (hpl : (backTo pos (starEach es X.env)).any (·.1) = false := by rfl) :
    PE X (.Call (.Name x p) (e :: es) [] pos) (tMake C sp [] E0 t) := by
  obtain ⟨f, fd, F, mf, bf⟩ := c
  exact pe_make mf F (hr.mono hj) hg hm bf .nil pass0 ha hdb he hpl
theorem pe_lenSetK {K : PySem.W.Frag} {a : Expr} {p2 q : Pos} (hK : X.K = K) (hg : Gl X "len") (hm : X.mg "len" = none) (hg2 : Gl X "set") (hm2 : X.mg "set" = none) (ha : PE X a ta) (hc : X.calm = true := by rfl)
    (na : starEach [a] X.env = (false, eval a X.env) :: starEach [] X.env := by rfl) :
    PE X (.Call (.Name "len" p) [.Call (.Name "set" p2) [a] [] q] [] pos) (tLenSetG K ta) := by
  subst hK
  exact pe_lenSetG hg hm hg2 hm2 ha hc na
end
/-- what is known of an answer's class -/
structure ClF (K : PySem.W.Frag) (C : Addr) : Prop where
  cl : Cls K C
  mks : PySem.W.makesIn K C = true
  kp : PySem.W.keepIn K (.ref C) = true
  ha : PySem.W.findIn K (.ref C) "__class__" = some (some (.builtin "object.__class__"))
  hn : PySem.W.specialIn K (.builtin "object.__class__") "__get__" = some (some (.builtin "getset_descriptor.__get__"))
  ht : PySem.W.takesIn K (.builtin "object.__class__") = some true
  hm : PySem.W.mroIn K C (.type "object") = some true
theorem ClF.ty {K : PySem.W.Frag} {H : Hp} {C a dx : Addr} {fs : List (Str × V)} (c : ClF K C) (h : H a = some (.ins C dx fs)) : TyX K H (.ref a) (.ref C) := .base (.ins h c.cl c.ha c.hn c.ht c.hm)
def alF (g : Addr) : List (Str × V) := putF "evenings" (.ref g) []
theorem alF_ev (g : Addr) : (alF g).lookup ("evenings" : Str) = some (.ref g) := by
  unfold alF
  rw [lookup_putF, if_pos rfl]
theorem alF_no (g : Addr) : (alF g).lookup ("shows" : Str) = none := by
  unfold alF
  rw [lookup_putF, if_neg (by decide +kernel)]
  rfl
/-- an Alike with the list at g; a Never -/
def IsAl (C : Addr) (H : Hp) (x g : Addr) : Prop := ∃ dx, H x = some (.ins C dx (alF g))
def IsNv (C : Addr) (H : Hp) (x : Addr) : Prop := ∃ dx, H x = some (.ins C dx [])
section
variable {P : Program} {w : World} {K : PySem.W.Frag} {mg : Str → Option Value} {base : Heap}
def sp_al_init (C : Addr) : Sp := fun vs H Q _ => ∃ (x dx g : Addr) (ws : List V), vs = [.ref x, .ref g] ∧ H x = some (.ins C dx []) ∧ H g = some (.lst ws) ∧
  ∀ H' o, H o = none → H' o = some (.lst ws) → H' x = some (.ins C dx (alF o)) → (∀ b u, H b = some u → b ≠ x → H' b = some u) → Q .non H'
theorem ok_al_init {f C : Addr} {fd : FuncData} (F : Fun K "__init__" "Alike.__init__" s_Alike_init f fd) (B : Blt mg) (c : ClF K C) (nE : NoAttr K C "evenings") : FnOk P w K mg base CX0 1 f fd ["self", "evenings"] (sp_al_init C) := by
  refine F.ok sc_Alike_init (fun vs H Q E h => ?_) (fun cdv A outer s H vs Q E hr h => ?_)
  · obtain ⟨x, dx, g, ws, rfl, _⟩ := h
    rfl
  · obtain ⟨x, dx, g, ws, rfl, hx, hg, q⟩ := h
    refine ⟨_, (pss_one (ps_fld (pv 0) (pe_callTy (r := rListOf K) call_list_of (by rfl) B.list PyProof.Rows.boot_list (pa_cons (pv 1) pa_nil)) rfl)), ?_⟩
    refine ⟨.ref g, rfl, g, ws, rfl, .inl (SqL.of hg), fun o ho => ?_⟩
    have nx : x ≠ o := ne_of_none hx ho
    refine ⟨.ref x, rfl, x, C, dx, [], rfl, (by rw [upd_ne nx]; exact hx), c.cl, nE, (by show 0 < 1000; decide), ?_⟩
    refine q _ o ho (by rw [upd_ne nx.symm, upd_same]) upd_same fun b u e nb => ?_
    rw [upd_ne nb, upd_ne (ne_of_none e ho)]
    exact e
def sp_al_shows (K : PySem.W.Frag) (C : Addr) : Sp := fun vs H Q _ => ∃ (x g a : Addr) (ws : List V) (ps : List Pr) (ns : List Int), vs = [.ref x, .ref a] ∧ IsAl C H x g ∧ H g = some (.lst ws) ∧ Prs H ws ps ∧ SqL K H a (ns.map V.int) ∧ ns.length ≤ 12 ∧
  ∀ H', Same H H' → Q (.bl (alikeB ((rbeh ns ps).getD []))) H'
theorem rbeh_len {ns r : Rw} {ps : List Pr} (h : rbeh ns ps = some r) : r.length = ns.length := (rbeh_rch _ rfl h).len
theorem ok_al_shows {f C : Addr} {fd : FuncData} (F : Fun K "shows" "Alike.shows" s_Alike_shows f fd) (c : ClF K C) (nE : NoAttr K C "evenings") (c_row_behind : Cal CX0 P w K mg base "row_behind" ["row", "some"] 2 (sp_row_behind K))
    (c_are_alike : Cal CX0 P w K mg base "are_alike" ["row"] 1 (sp_are_alike K)) : FnOk P w K mg base CX0 3 f fd ["self", "row"] (sp_al_shows K C) := by
  refine F.ok sc_Alike_shows (fun vs H Q E h => ?_) (fun cdv A outer s H vs Q E hr h => ?_)
  · obtain ⟨x, g, a, ws, ps, ns, rfl, _⟩ := h
    rfl
  · obtain ⟨x, g, a, ws, ps, ns, rfl, ⟨dx, hx⟩, hg, pr, hS, hl, q⟩ := h
    refine ⟨_, (pss_one (ps_ret (pe_cal c_are_alike hr (by rfl) (pa_cons (pe_cal c_row_behind hr (by rfl) (pa_cons (pv 1) (pa_cons (pe_fld (pv 0) rfl) pa_nil))) pa_nil)))), ?_⟩
    refine ⟨.ref a, rfl, .ref x, rfl, x, C, dx, _, _, rfl, hx, c.cl, nE, alF_ev g, a, g, ns, ws, ps, rfl, hS, hl, hg, pr, fun H1 o s1 hO => ?_⟩
    refine ⟨o, _, rfl, hO, ?_, q H1 s1⟩
    cases e : rbeh ns ps with
    | none => exact Nat.zero_le _
    | some r =>
      show r.length ≤ 4000
      rw [rbeh_len e]
      omega
def noAl (ns : Rw) : Prop := ∀ n r, Rch ns n r → alikeB r = false
open Classical in
noncomputable def neverB (ns : Rw) : Bool := decide (noAl ns)
open Classical in
theorem neverB_true {ns : Rw} (h : noAl ns) : neverB ns = true := by unfold neverB; exact decide_eq_true h
open Classical in
theorem neverB_false {ns : Rw} (h : ¬ noAl ns) : neverB ns = false := by unfold neverB; exact decide_eq_false h
def sp_nv_shows (C : Addr) : Sp := fun vs H Q _ => ∃ (x a : Addr) (ns : List Int), vs = [.ref x, .ref a] ∧ IsNv C H x ∧ Lst H a ns ∧ Small ns ∧ ∀ H', Same H H' → Q (.bl (neverB ns)) H'
theorem ok_nv_shows {f C : Addr} {fd : FuncData} (F : Fun K "shows" "Never.shows" s_Never_shows f fd) (c_way_to_alike : Cal CX0 P w K mg base "way_to_alike" ["row"] 2 sp_way) : FnOk P w K mg base CX0 3 f fd ["self", "row"] (sp_nv_shows C) := by
  refine F.ok sc_Never_shows (fun vs H Q E h => ?_) (fun cdv A outer s H vs Q E hr h => ?_)
  · obtain ⟨x, a, ns, rfl, _⟩ := h
    rfl
  · obtain ⟨x, a, ns, rfl, hx, hL, ok, q⟩ := h
    refine ⟨_, (pss_one (ps_ret (pe_cmpR op_isN (pe_cal c_way_to_alike hr (by rfl) (pa_cons (pv 1) pa_nil)) pe_non (nomark _)))), ?_⟩
    refine ⟨.ref a, rfl, a, ns, rfl, hL, ok, fun H1 s1 hn => ⟨rfl, ?_⟩, fun H1 g ps path r s1 hg pr hrb hal hmin => ⟨rfl, ?_⟩⟩
    · have e : neverB ns = true := neverB_true hn
      have z := q H1 s1
      rw [e] at z
      exact z
    · have e : neverB ns = false := by
        refine neverB_false fun hn => ?_
        have := hn _ r (rbeh_rch _ rfl hrb)
        rw [hal] at this
        cases this
      have z := q H1 s1
      rw [e] at z
      exact z
end
end EG

/-! The law's own walk along evenings. -/
namespace EG
open PySem L2
def rowV (o : Option Rw) (v : V) (K : PySem.W.Frag) (H : Hp) : Prop := match o with
  | none => v = .non
  | some r => ∃ b, v = .ref b ∧ SqL K H b (r.map V.int) ∧ r.length ≤ 12
section
variable {P : Program} {w : World} {K : PySem.W.Frag} {mg : Str → Option Value} {base : Heap}
def sp_walked (K : PySem.W.Frag) : Sp := fun vs H Q _ => ∃ (a g : Addr) (ns : List Int) (ws : List V) (ps : List Pr), vs = [.ref a, .ref g] ∧ SqL K H a (ns.map V.int) ∧ ns.length ≤ 12 ∧ H g = some (.lst ws) ∧ Prs H ws ps ∧
  ∀ H' v, Same H H' → rowV (rbeh ns ps) v K H' → Q v H'
theorem ok_walked {f : Addr} {fd : FuncData} (F : Fun K "_law_walked" "_law_walked" s_l_walked f fd) (c_l_can : Cal CX0 P w K mg base "_law_can" ["_law_row_here"] 1 (sp_can K))
    (c_l_evened : Cal CX0 P w K mg base "_law_evened" ["_law_row_here", "_law_pair"] 1 (sp_l_evened K)) : FnOk P w K mg base CX0 2 f fd ["_law_row_here", "_law_pairs"] (sp_walked K) := by
  refine F.ok sc_l_walked (fun vs H Q E h => ?_) (fun cdv A outer s H vs Q E hr h => ?_)
  · obtain ⟨a, g, ns, ws, ps, rfl, _⟩ := h
    rfl
  · obtain ⟨a, g, ns, ws, ps, rfl, hS, hl, hg, pr, q⟩ := h
    refine ⟨_, (pss_cons (ps_for PassesOwn.never rfl (pi_list (pv 1)) (pg_name (i := 2) sc_l_walked.nd rfl (.inl rfl))
    (pss_one (ps_if (pt_cmpR op_notN (pv 0) pe_non (nomark _))
      (pss_one (ps_set (i := 0) sc_l_walked.nd rfl (.inl rfl) (pe_ifExp (pt_cmpR (r := rInD K) (op_inD (room65 hr)) (pv 2) (pe_cal c_l_can hr (by rfl) (pa_cons (pv 0) pa_nil)) (by rfl)) (pe_cal c_l_evened hr (by rfl) (pa_cons (pv 0) (pa_cons (pv 2) pa_nil))) pe_non)))
      pss_nil)))
    (pss_one (ps_ret (pv 0)))), ?_⟩
    refine ⟨.ref g, rfl, g, rfl, ⟨_, SqL.of hg⟩, for_list (K := K) (a := g) (xs := ws)
      (fun i σ H' => ∃ v y, σ = [some v, some (.ref g), y] ∧ Same H H' ∧ rowV (rbeh ns (ps.take i)) v K H')
      ⟨.ref a, none, rfl, Same.refl _, a, rfl, hS, hl⟩ (fun i σ H' _ h => ?_) (fun i x σ H1 hx h => ?_) (fun σ H1 h => ?_)⟩
    · obtain ⟨_, _, _, s1, _⟩ := h
      exact SqL.of (s1 _ _ hg)
    · obtain ⟨v, y, rfl, s1, rv⟩ := h
      obtain ⟨p, hp, t, rfl, ht⟩ := prs_at pr hx
      have ht1 := s1 _ _ ht
      refine ⟨v, rfl, rfl, _, rfl, ?_⟩
      cases e : rbeh ns (ps.take i) with
      | none =>
        rw [e] at rv
        have ev : v = .non := rv
        subst ev
        refine itN (by decide) ⟨_, _, rfl, s1, ?_⟩
        rw [rbeh_take hp, e]
        rfl
      | some ms =>
        rw [e] at rv
        obtain ⟨o, ev, hO, hlm⟩ := rv
        subst ev
        refine itP (by rw [decide_eq_false (by intro z; cases z)]; rfl) ?_
        refine ⟨.ref t, rfl, .ref o, rfl, o, ms, rfl, hO, hlm, fun H2 z ws2 s2 hz hz2 pz => ?_⟩
        refine ⟨prD p, (evs ms).map prD, dp_prT (SqT.of (s2 _ _ ht1)), dp_prs (SqL.of hz2) pz, shaped_pr _, shaped_prs _, _, rfl, ?_⟩
        rw [any_prs]
        by_cases c : p ∈ evs ms
        · refine itP (decide_eq_true c) ?_
          refine ⟨.ref o, rfl, .ref t, rfl, o, t, ms, p, rfl, s2.seq hO, s2 _ _ ht1, c, hlm, fun H3 u s3 hu hU => ?_⟩
          refine ⟨_, _, rfl, (s1.trans s2).trans s3, ?_⟩
          rw [rbeh_take hp, e]
          show rowV (stepE ms p) _ K H3
          rw [show stepE ms p = some (behP ms p) from if_pos c]
          exact ⟨u, rfl, hU.sq, by rw [behP_length]; exact hlm⟩
        · refine itN (by rw [decide_eq_false c]; decide) ?_
          refine ⟨_, _, rfl, s1.trans s2, ?_⟩
          rw [rbeh_take hp, e]
          show rowV (stepE ms p) _ K H2
          rw [show stepE ms p = none from if_neg c]
          rfl
    · obtain ⟨v, y, rfl, s1, rv⟩ := h
      rw [List.take_of_length_le (by rw [pd_len pr]; exact Nat.le_refl _)] at rv
      exact ⟨v, rfl, q H1 v s1 rv⟩
end
end EG

/-! Small words over the answers. -/
namespace EG
open PySem L2
theorem made_at {H : Hp} {x dx C b : Addr} {o : HO} (h : H b = some o) (nx : H x = none) (nd : H dx = none) : (upd (upd H dx (.own x)) x (.ins C dx [])) b = some o := by
  rw [upd_ne (ne_of_none h nx), upd_ne (ne_of_none h nd)]
  exact h
theorem RowOk.small {ns : Rw} {m g : Int} (h : RowOk ns m g) (hm : m ≤ 5) (hg : g ≤ 20) : Small ns := ⟨h.1, by have := h.2.1; omega, fun x hx => ⟨(h.2.2 x hx).1, by have := (h.2.2 x hx).2; omega⟩⟩
theorem read_due {K : PySem.W.Frag} {i : Nat} {σ : St} {H : Hp} {Q : VK} {ns : Rw} {ps : List Pr} {v : V} (hv : σ[i]? = some (some v)) (rv : rowV (rbeh ns ps) v K H) (q : Q (.bl (alikeB ((rbeh ns ps).getD []))) H) :
    tAndV (tOp (fun x y H Q => y = .non ∧ Q (.bl (!decide (x = .non))) H) (tVar i) (tC .non)) (tOp rEq (tLenSetG K (tVar i)) (tC (.int 1))) σ H Q := by
  refine ⟨v, hv, rfl, _, rfl, ?_⟩
  cases e : rbeh ns ps with
  | none =>
    rw [e] at rv q
    have ev : v = .non := rv
    subst ev
    exact itN (by decide) q
  | some r =>
    rw [e] at rv q
    obtain ⟨b, ev, hb, hl⟩ := rv
    subst ev
    refine itP (by rw [decide_eq_false (by intro z; cases z)]; rfl) ⟨_, hv, b, r, rfl, hb, by omega, rfl, ?_⟩
    rw [dec_int]
    exact q
/-- all that come: none alike, by the levels -/
theorem never_levels {ns : Rw} {n : Nat} (h1 : lev ns n = []) : neverB ns = !(((List.range n).map fun i => (lev ns i).any alikeB).any id) := by
  by_cases c : noAl ns
  · rw [neverB_true c]
    have e : (((List.range n).map fun i => (lev ns i).any alikeB).any id) = false := by
      rw [List.any_eq_false]
      intro b hb
      obtain ⟨i, _, rfl⟩ := List.mem_map.mp hb
      have : (lev ns i).any alikeB = false := by
        rw [List.any_eq_false]
        intro r hr
        rw [c i r (mem_lev.mp hr)]
        decide
      rw [this]
      decide
    rw [e]; rfl
  · rw [neverB_false c]
    have e : (((List.range n).map fun i => (lev ns i).any alikeB).any id) = true := by
      apply Classical.byContradiction
      intro z
      refine c fun k r hk => ?_
      have hkn : k < n := by
        apply Classical.byContradiction
        intro hge
        have emp : ∀ j, lev ns (n + j) = [] := by
          intro j
          induction j with
          | zero => exact h1
          | succ j ih =>
            show nextL (lev ns (n + j)) = []
            rw [ih]; rfl
        have := mem_lev.mpr hk
        rw [show k = n + (k - n) by omega, emp] at this
        cases this
      cases ca : alikeB r with
      | false => rfl
      | true =>
        refine absurd ?_ z
        rw [List.any_eq_true]
        refine ⟨true, List.mem_map.mpr ⟨k, List.mem_range.mpr hkn, ?_⟩, rfl⟩
        rw [List.any_eq_true]
        exact ⟨r, mem_lev.mpr hk, ca⟩
    rw [e]; rfl
theorem prs_sub {H : Hp} : ∀ {vs : List V}, (∀ v ∈ vs, ∃ p, IsP H v p) → ∃ ps, Prs H vs ps := fun {vs} h => ⟨_, prs_of h⟩
end EG

/-! alike; an answer, whichever. -/
namespace EG
open PySem PySem.Spec PyProof.Rows L2
/-- none: Never; some: Alike with these evenings -/
def IsAns (CA CN : Addr) (H : Hp) (x : Addr) : Option (List Pr) → Prop
  | none => IsNv CN H x
  | some ps => ∃ g ws, IsAl CA H x g ∧ H g = some (.lst ws) ∧ Prs H ws ps
theorem IsAns.mono {CA CN : Addr} {H H' : Hp} (s : Same H H') {x : Addr} : ∀ {A : Option (List Pr)}, IsAns CA CN H x A → IsAns CA CN H' x A
  | none, ⟨dx, h⟩ => ⟨dx, s _ _ h⟩
  | some _, ⟨g, ws, ⟨dx, h1⟩, h2, h3⟩ => ⟨g, ws, ⟨dx, s _ _ h1⟩, s _ _ h2, h3.mono (Same.tups s)⟩
noncomputable def showV : Option (List Pr) → Rw → Bool
  | none, ns => neverB ns
  | some ps, ns => alikeB ((rbeh ns ps).getD [])
/-- as told: the right answer for a row -/
def AnsFor (ns : Rw) : Option (List Pr) → Prop
  | none => noAl ns
  | some ps => ∃ r, rbeh ns ps = some r ∧ alikeB r = true ∧ ∀ n r', n < ps.length → Rch ns n r' → alikeB r' = false
theorem AnsFor.show {ns : Rw} : ∀ {A : Option (List Pr)}, AnsFor ns A → showV A ns = true
  | none, h => neverB_true h
  | some ps, ⟨r, h1, h2, _⟩ => by
    show alikeB ((rbeh ns ps).getD []) = true
    rw [h1]
    exact h2
/-- o.shows(row) of an answer, whichever -/
def tShows (K : PySem.W.Frag) (CA CN : Addr) (ta : TE) (t : TA) : TE := fun σ H Q => ta σ H fun x H1 => ∃ xo A, x = .ref xo ∧ IsAns CA CN H1 xo A ∧ t σ H1 fun vs H2 =>
  ∃ (a : Addr) (ns : Rw), vs = [.ref a] ∧ IsAns CA CN H2 xo A ∧ Lst H2 a ns ∧ Small ns ∧ ∀ H', Same H2 H' → Q (.bl (showV A ns)) H'
section
variable {X : Cx} {CA CN : Addr} {k : Nat} {o e : Expr} {es : List Expr} {ta : TE} {t : TA} {pos apos : Pos}
theorem pe_shows {pl : Sem Bool} {K : PySem.W.Frag} (hK : X.K = K) (ca : CalM CX0 X.prog X.w X.K X.mg X.base CA "shows" ["self", "row"] 3 (sp_al_shows X.K CA)) (cn : CalM CX0 X.prog X.w X.K X.mg X.base CN "shows" ["self", "row"] 3 (sp_nv_shows CN))
    (clA : Cls X.K CA) (clN : Cls X.K CN) (hr : Room k X.A) (he : PE X o ta) (ha : PA X (e :: es) t) (hj : 3 ≤ k := by decide)
    (hst : starEach (e :: es) X.env = (false, eval e X.env) :: starEach es X.env := by rfl) (hpl : (backTo pos (starEach es X.env)).any (·.1) = false := by rfl)
    (ht : eval (.Call (.Attribute o "shows" apos) (e :: es) [] pos) X.env = (do
      let ov ← eval o X.env
      standAt apos.atName
      let (f, first) ← holding [ov] (getMethod ov "shows" pl)
      callWith pos f first (backTo pos (starEach (e :: es) X.env)) (backToKw pos (keywordEach [] X.env))) := by rfl) :
    PE X (.Call (.Attribute o "shows" apos) (e :: es) [] pos) (tShows K CA CN ta t) := by
  subst hK
  obtain ⟨fa, fda, FA, ma, ba⟩ := ca
  obtain ⟨fn, fdn, FN, mn, bn⟩ := cn
  refine ⟨fun pins s σ H Q I h => ?_⟩
  refine PySem.W.methodCall_KW (pl := pl) (thn (he.run pins s σ H _ I h) fun u sA ⟨x, HA, IA, rx, qA⟩ => ?_) ht
  obtain ⟨xo, A, ex, an, qA⟩ := qA
  subst ex
  obtain rfl : u = Value.ref xo := rx
  cases A with
  | none =>
    obtain ⟨dx, hx⟩ := an
    refine getmeth_ok IA hx clN mn rfl ?_
    refine PySem.W.callWith_K (first := [.ref xo]) (h₀ := X.base) IA.ok.mod.kin mn.kp (thn (ha.run pos pins sA σ HA _ IA qA) fun us sB ⟨vs, HB, IB, r, qB⟩ => ⟨IB.kIn, ?_⟩) hst hpl
    obtain ⟨a, ns, ev, an2, hL, ok, qB⟩ := qB
    subst ev
    exact run_fn (us := .ref xo :: us) (vs := .ref xo :: [.ref a]) FN (hr.mono hj) bn .nil pass0 IB (.cons rfl r) ⟨xo, a, ns, rfl, an2, hL, ok, qB⟩
  | some ps =>
    obtain ⟨g, ws, ⟨dx, hx⟩, _, _⟩ := an
    refine getmeth_ok IA hx clA ma (alF_no g) ?_
    refine PySem.W.callWith_K (first := [.ref xo]) (h₀ := X.base) IA.ok.mod.kin ma.kp (thn (ha.run pos pins sA σ HA _ IA qA) fun us sB ⟨vs, HB, IB, r, qB⟩ => ⟨IB.kIn, ?_⟩) hst hpl
    obtain ⟨a, ns, ev, ⟨g2, ws2, al2, hg2, pr2⟩, hL, ok, qB⟩ := qB
    subst ev
    exact run_fn (us := .ref xo :: us) (vs := .ref xo :: [.ref a]) FA (hr.mono hj) ba .nil pass0 IB (.cons rfl r) ⟨xo, g2, a, ws2, ps, ns, rfl, al2, hg2, pr2, hL.sq, ok.row12, qB⟩
end
section
variable {P : Program} {w : World} {K : PySem.W.Frag} {mg : Str → Option Value} {base : Heap}
def sp_alike (CA CN : Addr) : Sp := fun vs H Q _ => ∃ (a : Addr) (ns : Rw), vs = [.ref a] ∧ Lst H a ns ∧ Small ns ∧
  ∀ H' x A, Same H H' → H x = none → IsAns CA CN H' x A → (∀ g, IsAl CA H' x g → H g = none) → AnsFor ns A → Q (.ref x) H'
abbrev N_alike : List Str := ["row", "found"]
theorem ok_alike {f C_Alike C_Never : Addr} {fd : FuncData} {t1 t2 : Tok} (F : Fun K "alike" "alike" s_alike f fd) (g_FEW : mg "FEW" = some (.int 5 t1)) (g_SMALL : mg "SMALL" = some (.int 20 t2))
    (g_Alike : mg "Alike" = some (.ref C_Alike)) (g_Never : mg "Never" = some (.ref C_Never)) (cl_Never : ClF K C_Never) (i_Never : PySem.W.findIn K (.ref C_Never) "__init__" = some (some (.builtin "object.__init__")))
    (c_Alike_init : CalI CX0 P w K mg base C_Alike ["self", "evenings"] 1 (sp_al_init C_Alike)) (c_check_row : Cal CX0 P w K mg base "check_row" ["row", "most", "greatest"] 2 sp_check_row)
    (c_way_to_alike : Cal CX0 P w K mg base "way_to_alike" ["row"] 2 sp_way) : FnOk P w K mg base CX0 3 f fd ["row"] (sp_alike C_Alike C_Never) := by
  refine F.ok sc_alike (fun vs H Q E h => ?_) (fun cdv A outer s H vs Q E hr h => ?_)
  · obtain ⟨a, ns, rfl, _⟩ := h
    rfl
  · obtain ⟨a, ns, rfl, hL, ok, q⟩ := h
    refine ⟨_, (pss_cons (ps_expr (pe_cal c_check_row hr (by rfl) (pa_cons (pv 0) (pa_cons (pe_glob (v := .int 5) (by rfl) g_FEW ⟨_, rfl⟩) (pa_cons (pe_glob (v := .int 20) (by rfl) g_SMALL ⟨_, rfl⟩) pa_nil)))))
    (pss_cons (ps_set (i := 1) sc_alike.nd rfl (.inl rfl) (pe_cal c_way_to_alike hr (by rfl) (pa_cons (pv 0) pa_nil)))
    (pss_one (ps_ret (pe_ifExp (pt_cmpR op_isN (pv 1) pe_non (nomark _)) (pe_makeN cl_Never.mks i_Never cl_Never.kp (by rfl) g_Never) (pe_makeC c_Alike_init hr (by rfl) g_Alike (pa_cons (pv 1) pa_nil))))))), ?_⟩
    refine ⟨.ref a, rfl, a, ns, 5, 20, rfl, hL, by have := ok.len5; omega, ok, fun H1 s1 => ?_⟩
    refine ⟨.ref a, rfl, a, ns, rfl, hL.mono s1, ok, fun H2 s2 hn => ?_, fun H2 g ps path r s2 hg pr hrb hal hmin => ?_⟩
    · refine ⟨.non, rfl, rfl, _, rfl, itP (by decide) ?_⟩
      intro x dx nx nd _
      have s12 := s1.trans s2
      refine q _ x none (s12.trans fun b u z => made_at z nx nd) (s12.free nx) ⟨dx, upd_same⟩ (fun g hg => ?_) hn
      obtain ⟨dx2, h2⟩ := hg
      rw [upd_same] at h2
      cases h2
    · refine ⟨.ref g, rfl, rfl, _, rfl, itN (by rw [decide_eq_false (by intro z; cases z)]; decide) ?_⟩
      have s12 := s1.trans s2
      refine ⟨.ref g, rfl, fun x dx nx nd _ => ⟨x, dx, g, ps, rfl, upd_same, made_at hg nx nd, fun H3 o no ho hx hk => ⟨rfl, ?_⟩⟩⟩
      have s3 : Same H2 H3 := Same.made nx nd hk
      refine q H3 x (some path) (s12.trans s3) (s12.free nx) ⟨o, ps, ⟨dx, hx⟩, ho, pr.mono (Same.tups s3)⟩ (fun g2 hg2 => ?_) ⟨r, hrb, hal, hmin⟩
      obtain ⟨dx2, h2⟩ := hg2
      rw [hx] at h2
      have e1 : alF o = alF g2 := (HO.ins.inj (Option.some.inj h2)).2.2
      have e2 := alF_ev o
      rw [e1, alF_ev g2] at e2
      have e3 : g2 = o := V.ref.inj (Option.some.inj e2)
      rw [e3]
      have sm : Same H2 (upd (upd H2 dx (.own x)) x (.ins C_Alike dx [])) := fun b u z => made_at z nx nd
      exact (s12.trans sm).free no
end
end EG

/-! The law's fewest, due, right. -/
namespace EG
open PySem L2
/-- the fewest evenings behind which all are alike; -1 if none are -/
def IsFew (ns : Rw) (f : Int) : Prop := (f = -1 ∧ noAl ns) ∨ ∃ n : Nat, f = n ∧ (∃ r, Rch ns n r ∧ alikeB r = true) ∧ ∀ k r, k < n → Rch ns k r → alikeB r = false
theorem any_alike {ns : Rw} {n : Nat} : ((lev ns n).any alikeB) = true ↔ ∃ r, Rch ns n r ∧ alikeB r = true := by
  rw [List.any_eq_true]
  constructor
  · rintro ⟨r, h1, h2⟩
    exact ⟨r, mem_lev.mp h1, h2⟩
  · rintro ⟨r, h1, h2⟩
    exact ⟨r, mem_lev.mpr h1, h2⟩
theorem few_ans {ns : Rw} {f : Int} {A : Option (List Pr)} (h : IsFew ns f) (a : AnsFor ns A) : (A = none ∧ f = -1) ∨ ∃ ps, A = some ps ∧ f = (ps.length : Nat) := by
  cases A with
  | none =>
    rcases h with ⟨e, _⟩ | ⟨n, _, ⟨r, h1, h2⟩, _⟩
    · exact .inl ⟨rfl, e⟩
    · have := a n r h1
      rw [h2] at this
      cases this
  | some ps =>
    obtain ⟨r, h1, h2, h3⟩ := a
    have rr := rbeh_rch _ rfl h1
    rcases h with ⟨_, no⟩ | ⟨n, e, ⟨r', h4, h5⟩, h6⟩
    · have := no _ r rr
      rw [h2] at this
      cases this
    · refine .inr ⟨ps, rfl, ?_⟩
      rcases Nat.lt_trichotomy n ps.length with l | l | l
      · have := h3 n r' l h4
        rw [h5] at this
        cases this
      · rw [e, l]
      · have := h6 _ r l rr
        rw [h2] at this
        cases this
section
variable {P : Program} {w : World} {K : PySem.W.Frag} {mg : Str → Option Value} {base : Heap}
def sp_fewest (K : PySem.W.Frag) : Sp := fun vs H Q _ => ∃ (a : Addr) (ns : Rw), vs = [.ref a] ∧ SqL K H a (ns.map V.int) ∧ Small ns ∧ ∀ H' f, Same H H' → IsFew ns f → Q (.int f) H'
abbrev N_l_fewest : List Str := ["_law_row_here", "_law_many", "_law_line", "_law_some"]
theorem ok_fewest {f : Addr} {fd : FuncData} (F : Fun K "_law_fewest" "_law_fewest" s_l_fewest f fd) (B : Blt mg) (c_l_levels : Cal CX0 P w K mg base "_law_levels" ["_law_row_here"] 2 (sp_levels K)) :
    FnOk P w K mg base CX0 3 f fd ["_law_row_here"] (sp_fewest K) := by
  refine F.ok sc_l_fewest (fun vs H Q E h => ?_) (fun cdv A outer s H vs Q E hr h => ?_)
  · obtain ⟨a, ns, rfl, _⟩ := h
    rfl
  · obtain ⟨a, ns, rfl, hS, ok, q⟩ := h
    refine ⟨_, (pss_cons (ps_for PassesOwn.never rfl (pi_enum (by rfl) B.enum (pa_cons (pe_cal c_l_levels hr (by rfl) (pa_cons (pv 0) pa_nil)) pa_nil)) (pg_tup rfl (pgs_cons (pg_name (i := 1) sc_l_fewest.nd rfl (.inl rfl)) (pgs_cons (pg_name (i := 2) sc_l_fewest.nd rfl (.inl rfl)) pgs_nil)))
    (pss_one (ps_if (pt_val (pe_callB (r := rAny K) (cr_any rfl) (by rfl) B.any PyProof.Rows.boot_any (pa_cons (pe_lc (own := [("_law_some", 3)]) (g := gName 3) (tt := tYes) rfl sc_l_fewest.nd (pi_list (pv 2)) (blkOk_by (N := N_l_fewest) (sc := defScope s_l_fewest) (by decide +kernel)) (fun _ _ _ _ _ => (pg_name (i := 3) sc_l_fewest.nd rfl (.inl rfl))) (fun _ _ _ _ _ => pts_nil) (fun _ _ _ _ _ => (pe_cmpR op_eq (pe_lenSetK (K := K) rfl (by rfl) B.len (by rfl) B.set (pv 3)) pe_int (nomark _)))) pa_nil)))
      (pss_one (ps_ret (pv 1)))
      pss_nil)))
    (pss_one (ps_ret (pe_un un_neg pe_int)))), ?_⟩
    refine ⟨.ref a, rfl, a, ns, rfl, hS, ok, fun HB lv zs nl sB hlv hzs lvz hl0 hlt => ⟨lv, zs, rfl, SqL.of hzs, ?_⟩⟩
    have lz : zs.length = nl := by rw [pd_len lvz, List.length_map, List.length_range]
    refine ⟨fun i m σ H' => i + m = nl ∧ ∃ y1 y2 y3, σ = [some (.ref a), y1, y2, y3] ∧ Same HB H' ∧ ∀ k r, k < i → Rch ns k r → alikeB r = false, ⟨nl, by omega, _, _, _, rfl, Same.refl _, fun k r hk => absurd hk (by omega)⟩, fun i m σ HC h => ?_⟩
    obtain ⟨em, y1, y2, y3, rfl, sC, hno⟩ := h
    by_cases hi : i < nl
    · obtain ⟨v, hv⟩ : ∃ v, zs[i]? = some v := ⟨zs[i], List.getElem?_eq_getElem (by omega)⟩
      have hzC := sC _ _ hzs
      refine .inr ⟨⟨zs, v, SqL.of hzC, hv⟩, fun σ' H' => ∃ y1 y2 y3, σ' = [some (.ref a), y1, y2, y3] ∧ Same HB H' ∧ ∀ k r, k < i + 1 → Rch ns k r → alikeB r = false, fun σ' H' h => ⟨m - 1, by omega, by omega, h⟩, fun x HD hy => ?_⟩
      obtain ⟨T, y, rfl, nT, rfl, fy⟩ := hy
      have ey : y = v := Option.some.inj ((fy _ (SqL.of hzC)).symm.trans hv)
      subst ey
      have sT : Same HC (upd HC T (.tup [.int (i : Nat), y])) := same_new nT
      refine ⟨T, _, rfl, SqT.of upd_same, rfl, _, _, rfl, _, _, rfl, rfl, ?_⟩
      generalize upd HC T (.tup [.int (i : Nat), y]) = HD at sT
      obtain ⟨L, hL, b, wl, rfl, hb, rwl⟩ := pd_at lvz hv
      have eL : L = lev ns i := by
        rw [List.getElem?_map, List.getElem?_range hi] at hL
        exact (Option.some.inj hL).symm
      subst eL
      have cnt := lev_count ok i
      have sD := sC.trans sT
      refine ⟨.ref b, rfl, b, rfl, ⟨_, SqL.of (sD _ _ hb)⟩, fun D2 hD2 => ?_⟩
      refine lc_list (K := K) (a := b) (xs := wl) (fun j H' => Same HD H' ∧ H' D2 = some (.lst ((((lev ns i).take j).map alikeB).map V.bl))) ⟨same_new hD2, upd_same⟩ (fun j H' _ h2 => SqL.of (h2.1 _ _ (sD _ _ hb))) (fun j y HE hy h2 => ?_) (fun HE h2 => ?_)
      · obtain ⟨rr, hrr, bb, rfl, hbb⟩ := pd_at rwl hy
        have hjl := (List.getElem?_eq_some_iff.mp hrr).1
        have okrr : Small rr := (mem_lev.mp (List.mem_of_getElem? hrr)).ok ok
        refine ⟨rfl, iteT (B := True) ⟨.ref bb, rfl, bb, rr, rfl, ((hbb.mono sD).mono h2.1).sq, by have := okrr.len5; omega, rfl, ?_⟩⟩
        refine ⟨_, h2.2, lineB (by rw [List.length_map, List.length_map, List.length_take]; omega), same_upd2 h2.1 hD2, ?_⟩
        rw [upd_same, List.take_add_one, hrr, List.map_append, List.map_append, dec_int]
        rfl
      · have h3 := h2.2
        rw [pd_len rwl, List.take_length] at h3
        refine ⟨D2, _, rfl, SqL.of h3, _, rfl, ?_⟩
        have e : ((lev ns i).map alikeB).any id = (lev ns i).any alikeB := by rw [List.any_map]; rfl
        rw [e]
        cases ca : (lev ns i).any alikeB with
        | true =>
          refine iteT ⟨.int (i : Nat), rfl, q HE _ ((sB.trans sD).trans h2.1) (.inr ⟨i, rfl, any_alike.mp ca, hno⟩)⟩
        | false =>
          refine iteF ⟨_, _, _, rfl, sD.trans h2.1, fun k r hk hr => ?_⟩
          by_cases ek : k = i
          · subst ek
            cases cr : alikeB r with
            | false => rfl
            | true =>
              have := any_alike.mpr ⟨r, hr, cr⟩
              rw [ca] at this
              cases this
          · exact hno k r (by omega) hr
    · refine .inl ⟨⟨zs, SqL.of (sC _ _ hzs), by omega⟩, 1, rfl, q HC _ (sB.trans sC) (.inl ⟨rfl, fun k r hk => ?_⟩)⟩
      refine hno k r ?_ hk
      apply Classical.byContradiction
      intro z
      have emp : ∀ j, lev ns (nl + j) = [] := by
        intro j
        induction j with
        | zero => exact hl0
        | succ j ih =>
          show nextL (lev ns (nl + j)) = []
          rw [ih]; rfl
      have h5 := mem_lev.mpr hk
      rw [show k = nl + (k - nl) by omega, emp] at h5
      cases h5
/-- what is known of isinstance with the answers' classes -/
structure IsiF (K : PySem.W.Frag) (CA CN CR : Addr) : Prop where
  aa : PySem.W.kitOne K (.ref CA) (.ref CA) = some true
  an : PySem.W.kitOne K (.ref CA) (.ref CN) = some false
  ar : PySem.W.kitOne K (.ref CA) (.ref CR) = some true
  na : PySem.W.kitOne K (.ref CN) (.ref CA) = some false
  nn : PySem.W.kitOne K (.ref CN) (.ref CN) = some true
  nr : PySem.W.kitOne K (.ref CN) (.ref CR) = some true
theorem isi_ans {CA CN CR x : Addr} {H : Hp} (I : IsiF K CA CN CR) (cA : ClF K CA) (cN : ClF K CN) : ∀ {A : Option (List Pr)}, IsAns CA CN H x A →
    ∃ t, TyX K H (.ref x) t ∧ PySem.W.kitOne K t (.ref CA) = some A.isSome ∧ PySem.W.kitOne K t (.ref CN) = some A.isNone ∧ PySem.W.kitOne K t (.ref CR) = some true
  | none, ⟨dx, h⟩ => ⟨_, cN.ty h, I.na, I.nn, I.nr⟩
  | some _, ⟨g, ws, ⟨dx, h⟩, _, _⟩ => ⟨_, cA.ty h, I.aa, I.an, I.ar⟩
def sp_due (CA CN : Addr) : Sp := fun vs H Q _ => ∃ (a x : Addr) (ns : Rw) (A : Option (List Pr)), vs = [.ref a, .ref x] ∧ Lst H a ns ∧ Small ns ∧ IsAns CA CN H x A ∧ ∀ H', Same H H' → Q (.bl (showV A ns)) H'
abbrev N_l_due : List Str := ["_law_row_here", "_law_found", "_law_there"]
theorem few_neg {ns : Rw} {f : Int} (h : IsFew ns f) : decide (f < 0) = neverB ns := by
  rcases h with ⟨e, no⟩ | ⟨n, e, ⟨r, h1, h2⟩, _⟩
  · rw [neverB_true no, e]; decide
  · rw [neverB_false (fun no => by have := no n r h1; rw [h2] at this; cases this), e]
    exact decide_eq_false (by omega)
theorem ok_due {f C_Alike C_Never C_Answer : Addr} {fd : FuncData} (F : Fun K "_law_due" "_law_due" s_l_due f fd) (B : Blt mg) (g_Never : mg "Never" = some (.ref C_Never)) (cl_Alike : ClF K C_Alike) (cl_Never : ClF K C_Never) (I : IsiF K C_Alike C_Never C_Answer)
    (nE : NoAttr K C_Alike "evenings") (c_l_fewest : Cal CX0 P w K mg base "_law_fewest" ["_law_row_here"] 3 (sp_fewest K)) (c_l_walked : Cal CX0 P w K mg base "_law_walked" ["_law_row_here", "_law_pairs"] 2 (sp_walked K)) :
    FnOk P w K mg base CX0 4 f fd ["_law_row_here", "_law_found"] (sp_due C_Alike C_Never) := by
  refine F.ok sc_l_due (fun vs H Q E h => ?_) (fun cdv A outer s H vs Q E hr h => ?_)
  · obtain ⟨a, x, ns, A, rfl, _⟩ := h
    rfl
  · obtain ⟨a, x, ns, A, rfl, hL, ok, an, q⟩ := h
    refine ⟨_, (pss_cons (ps_if (pt_val (pe_callB (r := rIsi K) call_isi (by rfl) B.isi PyProof.Rows.boot_isinstance (pa_cons (pv 1) (pa_cons (pe_glob (v := .ref C_Never) (by rfl) g_Never rfl) pa_nil))))
    (pss_one (ps_ret (pe_cmpR op_lt (pe_cal c_l_fewest hr (by rfl) (pa_cons (pv 0) pa_nil)) pe_int (nomark _))))
    pss_nil)
    (pss_cons (ps_set (i := 2) sc_l_due.nd rfl (.inl rfl) (pe_cal c_l_walked hr (by rfl) (pa_cons (pv 0) (pa_cons (pe_fld (pv 1) rfl) pa_nil))))
    (pss_one (ps_ret (pe_and (pe_cmpR op_notN (pv 2) pe_non (nomark _)) (pe_one (pe_cmpR op_eq (pe_lenSetG (by rfl) B.len (by rfl) B.set (pv 2)) pe_int (nomark _)))))))), ?_⟩
    obtain ⟨t, ty, _, kn, _⟩ := isi_ans I cl_Alike cl_Never an
    refine ⟨.ref x, rfl, _, _, _, _, A.isNone, rfl, .own _, ty, kn, A.isNone, rfl, ?_⟩
    cases A with
    | none =>
      refine iteT ⟨.ref a, rfl, a, ns, rfl, hL.sq, ok, fun H1 f s1 hf => ⟨_, _, rfl, rfl, ?_⟩⟩
      show Q (.bl (decide (f < 0))) H1
      rw [few_neg hf]
      exact q H1 s1
    | some ps =>
      refine iteF ?_
      obtain ⟨g, ws, ⟨dx, hx⟩, hg, pr⟩ := an
      refine ⟨.ref a, rfl, .ref x, rfl, x, C_Alike, dx, _, _, rfl, hx, cl_Alike.cl, nE, alF_ev g, a, g, ns, ws, ps, rfl, hL.sq, ok.row12, hg, pr, fun H1 v s1 rv => ?_⟩
      exact read_due (ns := ns) (ps := ps) rfl rv (q H1 s1)
end
end EG

/-! law_k02: right. -/
namespace EG
open PySem L2
theorem not_ev00 (r : Rw) : ((0 : Int), (0 : Int)) ∉ evs r := fun h => by
  obtain ⟨i, j, e, hij, _⟩ := mem_evs.mp h
  have h1 := (Prod.mk.inj e).1
  have h2 := (Prod.mk.inj e).2
  omega
theorem show_more (ns : Rw) (ps : List Pr) : showV (some (ps ++ [(0, 0)])) ns = false := by
  show alikeB ((rbeh ns (ps ++ [(0, 0)])).getD []) = false
  have e : rbeh ns (ps ++ [(0, 0)]) = none := by
    rw [rbeh_snoc]
    cases h : rbeh ns ps with
    | none => rfl
    | some q => exact if_neg (not_ev00 q)
  rw [e]
  decide
theorem shb (a b : Bool) : SeqAt.shaped (.list [.bool a, .bool b]) = true := by cases a <;> cases b <;> decide
theorem eqb (a b : Bool) : PyData.eqv (.list [.bool a, .bool b]) (.list [.bool a, .bool b]) = true := by cases a <;> cases b <;> decide
section
variable {P : Program} {w : World} {K : PySem.W.Frag} {mg : Str → Option Value} {base : Heap}
def IsRS (H : Hp) (v : V) : Prop := ∃ b r, v = .ref b ∧ Lst H b r ∧ Small r
def sp_right : Sp := fun vs H Q _ => ∃ (a o : Addr) (ns : Rw) (os : List V), vs = [.ref a, .ref o] ∧ Lst H a ns ∧ Small ns ∧ H o = some (.lst os) ∧ (∀ v ∈ os, IsRS H v) ∧ os.length ≤ 10 ∧ ∀ H', Same H H' → Q (.bl true) H'
abbrev N_l_right : List Str := ["_law_row_here", "_law_others", "_law_handed", "_law_fewest_here", "_law_again", "_law_found", "_law_sorts", "_law_other"]
theorem Small.rev {ns : Rw} (h : Small ns) : Small ns.reverse := RowOk.rev h
theorem ok_right {f C_Alike C_Never C_Answer : Addr} {fd : FuncData} (F : Fun K "_law_right" "_law_right" s_l_right f fd) (B : Blt mg) (g_Alike : mg "Alike" = some (.ref C_Alike)) (g_Never : mg "Never" = some (.ref C_Never)) (g_Answer : mg "Answer" = some (.ref C_Answer))
    (cl_Alike : ClF K C_Alike) (cl_Never : ClF K C_Never) (I : IsiF K C_Alike C_Never C_Answer) (nE : NoAttr K C_Alike "evenings") (c_l_fewest : Cal CX0 P w K mg base "_law_fewest" ["_law_row_here"] 3 (sp_fewest K))
    (c_alike : Cal CX0 P w K mg base "alike" ["row"] 3 (sp_alike C_Alike C_Never)) (c_l_due : Cal CX0 P w K mg base "_law_due" ["_law_row_here", "_law_found"] 4 (sp_due C_Alike C_Never)) (c_l_says : Cal CX0 P w K mg base "_law_says" n_says 1 sp_says)
    (c_Alike_shows : CalM CX0 P w K mg base C_Alike "shows" ["self", "row"] 3 (sp_al_shows K C_Alike)) (c_Never_shows : CalM CX0 P w K mg base C_Never "shows" ["self", "row"] 3 (sp_nv_shows C_Never)) :
    FnOk P w K mg base CX0 5 f fd ["_law_row_here", "_law_others"] sp_right := by
  refine F.ok sc_l_right (fun vs H Q E h => ?_) (fun cdv A outer s H vs Q E hr h => ?_)
  · obtain ⟨a, o, ns, os, rfl, _⟩ := h
    rfl
  · obtain ⟨a, o, ns, os, rfl, hL, ok, ho, hos, los, q⟩ := h
    refine ⟨_, (pss_cons (ps_par (i := 2) (j := 3) rfl sc_l_right.nd rfl rfl (by decide) rfl rfl (pa_cons (pe_callTy (r := rListOf K) call_list_of (by rfl) B.list PyProof.Rows.boot_list (pa_cons (pv 0) pa_nil)) (pa_cons (pe_cal c_l_fewest hr (by rfl) (pa_cons (pv 0) pa_nil)) pa_nil)) (by rfl))
    (pss_cons (ps_for PassesOwn.never rfl (pi_range1 (by rfl) B.range (pa_cons pe_int pa_nil)) (pg_name (i := 4) sc_l_right.nd rfl (.inl rfl))
    (pss_cons (ps_set (i := 5) sc_l_right.nd rfl (.inr rfl) (pe_cal c_alike hr (by rfl) (pa_cons (pv 2) pa_nil)))
      (pss_cons (ps_set (i := 6) sc_l_right.nd rfl (.inl rfl) (pe_lst (pa_cons (pe_callB (r := rIsi K) call_isi (by rfl) B.isi PyProof.Rows.boot_isinstance (pa_cons (pv 5) (pa_cons (pe_glob (v := .ref C_Alike) (by rfl) g_Alike rfl) pa_nil))) (pa_cons (pe_callB (r := rIsi K) call_isi (by rfl) B.isi PyProof.Rows.boot_isinstance (pa_cons (pv 5) (pa_cons (pe_glob (v := .ref C_Never) (by rfl) g_Never rfl) pa_nil))) pa_nil))))
      (pss_cons (ps_if (PW.pt (pw_or (pt_not (pt_val (pe_callB (r := rIsi K) call_isi (by rfl) B.isi PyProof.Rows.boot_isinstance (pa_cons (pv 5) (pa_cons (pe_glob (v := .ref C_Answer) (by rfl) g_Answer rfl) pa_nil))))) (pw_or (pt_cmpR (r := rNeD K) (op_neD hr.units) (pv 6) (pe_lst (pa_cons (pe_cmpR op_ge (pv 3) pe_int (nomark _)) (pa_cons (pe_cmpR op_lt (pv 3) pe_int (nomark _)) pa_nil))) (nomark _)) (pw_or1 (pt_cmpR (r := rNeD K) (op_neD hr.units) (pv 2) (pv 0) (nomark _))))))
      (pss_one (ps_ret pe_bl))
      pss_nil)
      (pss_cons (ps_if (PW.pt (pw_or (PW.pt (pw_and (pt_cmpR op_ge (pv 3) pe_int (nomark _)) (pw_and1 (pt_cmpR op_ne (pe_callB (r := rLenS K) call_len_seq (by rfl) B.len PySem.boot_len (pa_cons (pe_fld (pv 5) rfl) pa_nil)) (pv 3) (nomark _))))) (pw_or1 (pt_not (pt_val (pe_cal c_l_due hr (by rfl) (pa_cons (pv 0) (pa_cons (pv 5) pa_nil))))))))
      (pss_one (ps_ret pe_bl))
      pss_nil)
      (pss_cons (ps_if (pt_cmpR op_notBl (pe_shows (K := K) rfl c_Alike_shows c_Never_shows cl_Alike.cl cl_Never.cl hr (pv 5) (pa_cons (pv 0) pa_nil)) pe_bl (nomark _))
      (pss_one (ps_ret pe_bl))
      pss_nil)
      (pss_cons (ps_if (pt_not (pt_val (pe_callB (r := rAll K) (cr_all rfl) (by rfl) B.all PyProof.Rows.boot_all (pa_cons (pe_lc (own := [("_law_other", 7)]) (g := gName 7) (tt := tYes) rfl sc_l_right.nd (pi_list (pv 1)) (blkOk_by (N := N_l_right) (sc := defScope s_l_right) (by decide +kernel)) (fun _ _ _ _ _ => (pg_name (i := 7) sc_l_right.nd rfl (.inl rfl))) (fun _ _ _ _ _ => pts_nil) (fun _ _ _ _ _ => (pe_cal c_l_says hr (by rfl) (pa_cons (pe_shows (K := K) rfl c_Alike_shows c_Never_shows cl_Alike.cl cl_Never.cl hr (pv 5) (pa_cons (pv 7) pa_nil)) (pa_cons (pe_cal c_l_due hr (by rfl) (pa_cons (pv 7) (pa_cons (pv 5) pa_nil))) pa_nil))))) pa_nil))))
      (pss_one (ps_ret pe_bl))
      pss_nil)
      (pss_one (ps_if (pt_cmpR op_ge (pv 3) pe_int (nomark _))
      (pss_cons (ps_expr (pe_bm PySem.F.plainAttrs_list PySem.F.slot_list_append PySem.F.type_list_append mt_append (pe_fld (pv 5) rfl) (pa_cons (pe_tup (pa_cons pe_int (pa_cons pe_int pa_nil))) pa_nil)))
        (pss_one (ps_if (pt_cmpR op_notBl (pe_shows (K := K) rfl c_Alike_shows c_Never_shows cl_Alike.cl cl_Never.cl hr (pv 5) (pa_cons (pv 0) pa_nil)) pe_bl (nomark _))
        (pss_one (ps_ret pe_bl))
        pss_nil)))
      pss_nil)))))))))
    (pss_cons (ps_expr (pe_bm0 PySem.F.plainAttrs_list PySem.F.slot_list_reverse PySem.F.type_list_reverse mt_reverse (pv 2)))
    (pss_one (ps_ret (pe_cal c_l_due hr (by rfl) (pa_cons (pv 2) (pa_cons (pe_cal c_alike hr (by rfl) (pa_cons (pv 2) pa_nil)) pa_nil)))))))), ?_⟩
    refine ⟨.ref a, rfl, a, _, rfl, .inl hL.sq, fun hd hhd => ?_⟩
    have s1 : Same H (upd H hd (.lst (ns.map V.int))) := same_new hhd
    have hH1 : Lst (upd H hd (.lst (ns.map V.int))) hd ns := upd_same
    generalize upd H hd (.lst (ns.map V.int)) = H1 at s1 hH1
    refine ⟨.ref a, rfl, a, ns, rfl, (hL.mono s1).sq, ok, fun H2 fw s2 hfw => ⟨_, _, rfl, ?_⟩⟩
    have hH2 := hH1.mono s2
    have s12 := s1.trans s2
    refine ⟨2, rfl, by decide, by decide, for_range
      (fun _ σ H' => ∃ x4 x5 x6 x7, σ = [some (.ref a), some (.ref o), some (.ref hd), some (.int fw), x4, x5, x6, x7] ∧ Same H2 H') ⟨_, _, _, _, rfl, Same.refl _⟩ (fun k σ H3 hk h => ?_) (fun σ H3 h => ?_)⟩
    · obtain ⟨x4, x5, x6, x7, rfl, s3⟩ := h
      refine ⟨.ref hd, rfl, hd, ns, rfl, hH2.mono s3, ok, fun H4 x An s4 nx an nfr af => ?_⟩
      have s24 := s3.trans s4
      obtain ⟨t, ty, ka, kn, kr⟩ := isi_ans I cl_Alike cl_Never an
      -- sorts
      refine ⟨.ref x, rfl, _, _, _, _, An.isSome, rfl, .own _, ty, ka, .ref x, rfl, _, _, _, _, An.isNone, rfl, .own _, ty, kn, (by show 2 ≤ sizeLine; decide), fun so hso => ?_⟩
      have s5 : Same H4 (upd H4 so (.lst [.bl An.isSome, .bl An.isNone])) := same_new hso
      have hso5 : (upd H4 so (.lst [.bl An.isSome, .bl An.isNone])) so = some (.lst [.bl An.isSome, .bl An.isNone]) := upd_same
      generalize upd H4 so (.lst [.bl An.isSome, .bl An.isNone]) = H5 at s5 hso5
      have an5 := an.mono s5
      obtain ⟨t5, ty5, _, _, kr5⟩ := isi_ans I cl_Alike cl_Never an5
      have fa := few_ans hfw af
      refine ⟨.ref x, rfl, _, _, _, _, true, rfl, .own _, ty5, kr5, true, rfl, iteF (A := True) ?_⟩
      have ge0 : decide (0 ≤ fw) = An.isSome := by
        rcases fa with ⟨e1, e2⟩ | ⟨ps, e1, e2⟩
        · rw [e1, e2]; decide
        · rw [e1, e2]; exact decide_eq_true (by omega)
      have lt0 : decide (fw < 0) = An.isNone := by
        rcases fa with ⟨e1, e2⟩ | ⟨ps, e1, e2⟩
        · rw [e1, e2]; decide
        · rw [e1, e2]; exact decide_eq_false (by omega)
      refine ⟨.ref so, rfl, .int fw, rfl, _, _, rfl, rfl, .int fw, rfl, _, _, rfl, rfl, (by show 2 ≤ sizeLine; decide), fun s2' hs2' => ?_⟩
      have s6 : Same H5 (upd H5 s2' (.lst [.bl (decide (0 ≤ fw)), .bl (decide (fw < 0))])) := same_new hs2'
      have dpb : ∀ {G : Hp} {z : Addr} {b1 b2 : Bool}, G z = some (.lst [.bl b1, .bl b2]) → Dp K G (.ref z) (.list [.bool b1, .bool b2]) := fun h => .lst (SqL.of h) (.cons (.bl _) (.cons (.bl _) .nil))
      refine ⟨.list [.bool An.isSome, .bool An.isNone], .list [.bool (decide (0 ≤ fw)), .bool (decide (fw < 0))], dpb (s6 _ _ hso5), dpb upd_same, shb _ _, shb _ _, _, rfl, itN (by rw [ge0, lt0, eqb]; decide) ?_⟩
      have an6 := an5.mono s6
      have s26 : Same H2 (upd H5 s2' (.lst [.bl (decide (0 ≤ fw)), .bl (decide (fw < 0))])) := (s24.trans s5).trans s6
      have s46 : Same H4 (upd H5 s2' (.lst [.bl (decide (0 ≤ fw)), .bl (decide (fw < 0))])) := s5.trans s6
      generalize upd H5 s2' (.lst [.bl (decide (0 ≤ fw)), .bl (decide (fw < 0))]) = H6 at an6 s26 s46
      have hL6 := hL.mono (s12.trans s26)
      refine ⟨.ref hd, rfl, .ref a, rfl, rowD ns, rowD ns, dp_row' (hH2.mono s26), dp_row' hL6, shaped_row _, shaped_row _, _, rfl, itN (nq_row _) ?_⟩
      -- the count; due
      refine ⟨.int fw, rfl, _, _, rfl, rfl, _, rfl, ?_⟩
      refine two_ways ?_ (fun hc v => ?_)
      case refine_2 =>
        rcases fa with ⟨e1, e2⟩ | ⟨ps, e1, e2⟩
        · rw [e2] at hc
          exact absurd hc (by decide)
        · subst e1
          obtain ⟨g, ws, ⟨dx, hx⟩, hg, pr⟩ := an6
          refine ⟨.ref x, rfl, x, C_Alike, dx, _, _, rfl, hx, cl_Alike.cl, nE, alF_ev g, g, ws, rfl, .inl (SqL.of hg), .int fw, rfl, rfl, _, rfl, itN ?_ (offF v)⟩
          rw [dec_int, e2, pd_len pr]
          simp
      refine iteF (A := True) ?_
      refine ⟨.ref a, rfl, .ref x, rfl, a, x, ns, An, rfl, hL6, ok, an6, fun H7 s7 => ⟨_, rfl, itN (by rw [af.show]; decide) ?_⟩⟩
      have an7 := an6.mono s7
      have hL7 := hL6.mono s7
      refine ⟨.ref x, rfl, x, An, rfl, an7, .ref a, rfl, a, ns, rfl, an7, hL7, ok, fun H8 s8 => ⟨_, _, rfl, rfl, _, rfl, itN (by rw [af.show]; decide) ?_⟩⟩
      have an8 := an7.mono s8
      have s28 := (s26.trans s7).trans s8
      have sH8 := s12.trans s28
      -- the others
      refine ⟨.ref o, rfl, o, rfl, ⟨_, SqL.of (sH8 _ _ ho)⟩, fun D hD => lc_list (K := K) (a := o) (xs := os) (fun i H' => Same H8 H' ∧ H' D = some (.lst ((List.replicate i true).map V.bl)))
        ⟨same_new hD, upd_same⟩ (fun i H' _ h => SqL.of (h.1 _ _ (sH8 _ _ ho))) (fun i y HA hy h => ?_) (fun HA h => ?_)⟩
      · have hil := (List.getElem?_eq_some_iff.mp hy).1
        obtain ⟨b, r, rfl, hb, okr⟩ := hos y (List.mem_of_getElem? hy)
        have anA := an8.mono h.1
        have hbA := (hb.mono sH8).mono h.1
        refine ⟨rfl, iteT (B := True) ⟨.ref x, rfl, x, An, rfl, anA, .ref b, rfl, b, r, rfl, anA, hbA, okr, fun HB sB => ?_⟩⟩
        refine ⟨.ref b, rfl, .ref x, rfl, b, x, r, An, rfl, hbA.mono sB, okr, anA.mono sB, fun HC sC => ⟨_, _, rfl, ?_⟩⟩
        refine ⟨_, sC _ _ (sB _ _ h.2), small1000 (by rw [List.length_map, List.length_replicate]; omega), same_upd2 ((h.1.trans sB).trans sC) hD, ?_⟩
        rw [upd_same, List.replicate_succ', List.map_append, decide_eq_true rfl]
        rfl
      · obtain ⟨s9, hDA⟩ := h
        refine ⟨D, List.replicate os.length true, rfl, SqL.of hDA, _, rfl, itN (by rw [all_rep]; decide) ?_⟩
        refine ⟨.int fw, rfl, _, _, rfl, rfl, _, rfl, ?_⟩
        have s2A := s28.trans s9
        have anA := an8.mono s9
        rcases fa with ⟨e1, e2⟩ | ⟨ps, e1, e2⟩
        · refine itN (by rw [e2]; decide) ?_
          exact ⟨_, _, _, _, rfl, s2A⟩
        · subst e1
          refine itP (by rw [e2]; exact decide_eq_true (by omega)) ?_
          obtain ⟨g, ws, ⟨dx, hx⟩, hg, pr⟩ := anA
          have hx4 := an
          obtain ⟨g4, ws4, ⟨dx4, hx4⟩, hg4, _⟩ := hx4
          have s4A : Same H4 HA := ((s46.trans s7).trans s8).trans s9
          have eg : g4 = g := by
            have e5 := s4A _ _ hx4
            rw [hx] at e5
            have e6 : alF g = alF g4 := (HO.ins.inj (Option.some.inj e5)).2.2
            have e7 := alF_ev g
            rw [e6, alF_ev g4] at e7
            exact V.ref.inj (Option.some.inj e7)
          have g3 : H3 g = none := by rw [← eg]; exact nfr g4 ⟨dx4, hx4⟩
          have g2 : H2 g = none := s3.free g3
          have lws : ws.length < sizeLine := by
            rw [pd_len pr]
            obtain ⟨r, h1, _⟩ := af
            have h2 := (rbeh_rch _ rfl h1).bound
            have h3 := ok.sq
            exact lineB (by omega)
          refine ⟨.ref x, rfl, x, C_Alike, dx, _, _, rfl, hx, cl_Alike.cl, nE, alF_ev g, .inl ⟨rfl, _, SqL.of hg⟩, (by show 2 ≤ sizeLine; decide), fun tz htz => ?_⟩
          have sB : Same HA (upd HA tz (.tup [.int 0, .int 0])) := same_new htz
          refine ⟨g, ws, _, rfl, rfl, sB _ _ hg, lws, ?_⟩
          have sC : Same H2 (upd (upd HA tz (.tup [.int 0, .int 0])) g (.lst (ws ++ [.ref tz]))) := same_upd2 (s2A.trans sB) g2
          have tz2 : (upd (upd HA tz (.tup [.int 0, .int 0])) g (.lst (ws ++ [.ref tz]))) tz = some (.tup [.int 0, .int 0]) := by
            rw [upd_ne (ne_of_none hg htz).symm]
            exact upd_same
          have anC : IsAns C_Alike C_Never (upd (upd HA tz (.tup [.int 0, .int 0])) g (.lst (ws ++ [.ref tz]))) x (some (ps ++ [(0, 0)])) := by
            refine ⟨g, _, ⟨dx, ?_⟩, upd_same, prs_app ((pr.mono (Same.tups sB)).mono (tups_lst (sB _ _ hg))) (.cons ⟨tz, rfl, tz2⟩ .nil)⟩
            rw [upd_ne (ne_of hx hg (by intro z; cases z))]
            exact sB _ _ hx
          generalize upd (upd HA tz (.tup [.int 0, .int 0])) g (.lst (ws ++ [.ref tz])) = HC at sC anC
          refine ⟨.ref x, rfl, x, _, rfl, anC, .ref a, rfl, a, ns, rfl, anC, hL.mono (s12.trans sC), ok, fun HD sD => ⟨_, _, rfl, rfl, _, rfl, itN (by rw [show_more]; decide) ?_⟩⟩
          exact ⟨_, _, _, _, rfl, sC.trans sD⟩
    · obtain ⟨x4, x5, x6, x7, rfl, s3⟩ := h
      have hH3 := hH2.mono s3
      refine ⟨.ref hd, rfl, .inl ⟨rfl, _, SqL.of hH3⟩, hd, _, rfl, rfl, hH3, ?_⟩
      have s4 : Same H (upd H3 hd (.lst (ns.map V.int).reverse)) := same_upd2 (s12.trans s3) hhd
      have hH4 : Lst (upd H3 hd (.lst (ns.map V.int).reverse)) hd ns.reverse := by
        unfold Lst
        rw [upd_same, List.map_reverse]
      generalize upd H3 hd (.lst (ns.map V.int).reverse) = H4 at s4 hH4
      refine ⟨.ref hd, rfl, .ref hd, rfl, hd, ns.reverse, rfl, hH4, ok.rev, fun H5 x An s5 nx an nfr af => ?_⟩
      refine ⟨hd, x, ns.reverse, An, rfl, hH4.mono s5, ok.rev, an, fun H6 s6 => ?_⟩
      rw [af.show]
      exact q H6 ((s4.trans s5).trans s6)
end
end EG

/-! law_k02: the law's own body. -/
namespace EG
open PySem L2
theorem cut1 (ns : List Int) : cutV (ns.map V.int) none (some 1) = (ns.take 1).map V.int := by
  unfold cutV
  rw [HT.sIx_none, show HT.sIx (ns.map V.int).length (ns.map V.int).length (some 1) = min 1 (ns.map V.int).length from HT.sIx_nat _ _ 1, List.drop_zero, Nat.sub_zero, List.length_map, List.map_take]
  cases ns with
  | nil => rfl
  | cons x ns => simp
theorem ans_few {ns : Rw} {A : Option (List Pr)} (h : AnsFor ns A) {n : Nat} (h1 : ∃ r ∈ lev ns n, alikeB r = true) (h2 : ∀ k < n, ∀ r ∈ lev ns k, alikeB r = false) : ∃ ps, A = some ps ∧ ps.length = n ∧ ∃ r, rbeh ns ps = some r ∧ alikeB r = true := by
  obtain ⟨r, hr, ha⟩ := h1
  cases A with
  | none =>
    have := h n r (mem_lev.mp hr)
    rw [ha] at this
    cases this
  | some ps =>
    obtain ⟨q, e1, e2, e3⟩ := h
    refine ⟨ps, rfl, ?_, q, e1, e2⟩
    have rq := rbeh_rch _ rfl e1
    rcases Nat.lt_trichotomy n ps.length with l | l | l
    · have := e3 n r l (mem_lev.mp hr)
      rw [ha] at this
      cases this
    · exact l.symm
    · have := h2 _ l q (mem_lev.mpr rq)
      rw [e2] at this
      cases this
theorem ans_never {ns : Rw} {A : Option (List Pr)} (h : AnsFor ns A) (e : evs ns = []) (a : alikeB ns = false) : A = none := by
  have one : ∀ k r, Rch ns k r → r = ns := by
    intro k r hk
    induction hk with
    | zero => rfl
    | step h hp ih => rw [ih, e] at hp; cases hp
  cases A with
  | none => rfl
  | some ps =>
    obtain ⟨q, e1, e2, e3⟩ := h
    rw [one _ q (rbeh_rch _ rfl e1), a] at e2
    cases e2
section
variable {P : Program} {w : World} {K : PySem.W.Frag} {mg : Str → Option Value} {base : Heap}
def sp_law (K : PySem.W.Frag) : Sp := fun vs H Q _ => ∃ (a : Addr) (ns : List Int), vs = [.ref a] ∧ SqL K H a (ns.map V.int) ∧ ns.length ≤ 63 ∧ (∀ z ∈ ns, bits z ≤ 1048576) ∧ ∀ H', Q (.bl true) H'
abbrev N_law : List Str := ["_law_script", "_law_by", "_law_five", "_law_row_here", "_law_even", "_law_some", "_law_found", "_law_never", "_law_one"]
theorem ok_law {f C_Alike C_Never C_Answer : Addr} {fd : FuncData} (F : Fun K "law" "law" s_law f fd) (B : Blt mg) (g_Alike : mg "Alike" = some (.ref C_Alike)) (g_Never : mg "Never" = some (.ref C_Never)) (cl_Alike : ClF K C_Alike) (cl_Never : ClF K C_Never)
    (I : IsiF K C_Alike C_Never C_Answer) (nE : NoAttr K C_Alike "evenings")
    (c_alike : Cal CX0 P w K mg base "alike" ["row"] 3 (sp_alike C_Alike C_Never)) (c_l_right : Cal CX0 P w K mg base "_law_right" ["_law_row_here", "_law_others"] 5 sp_right)
    (c_l_row : Cal CX0 P w K mg base "_law_row" ["_law_script", "_law_by", "_law_most", "_law_greatest"] 3 (sp_row K))
    (c_l_value : Cal CX0 P w K mg base "_law_value" ["_law_cell", "_law_turn"] 2 sp_value) (c_l_cell_at : Cal CX0 P w K mg base "_law_cell_at" ["_law_script", "_law_k"] 1 (sp_cell_at K)) : FnOk P w K mg base CX0 6 f fd ["_law_script"] (sp_law K) := by
  refine F.ok sc_law (fun vs H Q E h => ?_) (fun cdv A outer s H vs Q E hr h => ?_)
  · obtain ⟨a, ns, rfl, _⟩ := h
    rfl
  · obtain ⟨a, ns, rfl, hS, hl, hb, q⟩ := h
    refine ⟨_, (pss_cons (ps_set (i := 0) sc_law.nd rfl (.inl rfl) (pe_slice (r := rSlL K) sl_list (pv 0) po_none (po_some pe_int)))
    (pss_cons (ps_for PassesOwn.never rfl (pi_range2 (by rfl) B.range (pa_cons pe_int (pa_cons (pe_callB (call_max2 rfl) (by rfl) B.max PyProof.Rows.boot_max (pa_cons pe_int (pa_cons (pe_callB (call_min2 rfl) (by rfl) B.min PyProof.Rows.boot_min (pa_cons pe_int (pa_cons (pe_callB (r := rLenS K) call_len_seq (by rfl) B.len PySem.boot_len (pa_cons (pv 0) pa_nil)) pa_nil))) pa_nil))) pa_nil))) (pg_name (i := 1) sc_law.nd rfl (.inl rfl))
    (pss_cons (ps_set (i := 2) sc_law.nd rfl (.inl rfl) (pe_op op_fdiv (pe_op op_mod (pe_cal c_l_value hr (by rfl) (pa_cons (pe_cal c_l_cell_at hr (by rfl) (pa_cons (pv 0) (pa_cons (pv 1) pa_nil))) (pa_cons pe_int pa_nil))) pe_int) pe_int))
      (pss_cons (ps_set (i := 3) sc_law.nd rfl (.inl rfl) (pe_cal c_l_row hr (by rfl) (pa_cons (pv 0) (pa_cons (pv 1) (pa_cons (pe_op op_add pe_int (pv 2)) (pa_cons (pe_op op_sub pe_int (pe_op op_mul pe_int (pv 2))) pa_nil))))))
      (pss_cons (ps_set (i := 4) sc_law.nd rfl (.inl rfl) (pe_op op_cat (pe_op op_cat (pe_slice (r := rSlL K) sl_list (pv 3) po_none (po_some pe_int)) (pe_lc (own := [("_law_one", 8)]) (g := gName 8) (tt := tYes) rfl sc_law.nd (pi_list (pe_slice (r := rSlL K) sl_list (pv 3) po_none (po_some pe_int))) (blkOk_by (N := N_law) (sc := defScope s_law) (by decide +kernel)) (fun _ _ _ _ _ => (pg_name (i := 8) sc_law.nd rfl (.inl rfl))) (fun _ _ _ _ _ => pts_nil) (fun _ _ _ _ _ => (pe_op op_sub pe_int (pv 8))))) (pe_slice (r := rSlL K) sl_list (pv 3) po_none (po_some pe_int))))
      (pss_one (ps_for PassesOwn.never rfl (pi_tup (pe_tup (pa_cons (pv 3) (pa_cons (pe_revL (pv 3)) (pa_cons (pv 4) pa_nil))))) (pg_name (i := 5) sc_law.nd rfl (.inl rfl))
      (pss_one (ps_if (pt_not (pt_val (pe_cal c_l_right hr (by rfl) (pa_cons (pv 5) (pa_cons (pe_lst (pa_cons (pv 3) (pa_cons (pe_lst (pa_cons pe_int (pa_cons pe_int pa_nil))) (pa_cons (pe_lst (pa_cons pe_int (pa_cons pe_int pa_nil))) pa_nil)))) pa_nil)))))
        (pss_one (ps_ret pe_bl))
        pss_nil))))))))
    (pss_cons (ps_par (i := 6) (j := 7) rfl sc_law.nd rfl rfl (by decide) rfl rfl (pa_cons (pe_cal c_alike hr (by rfl) (pa_cons (pe_lst (pa_cons pe_int (pa_cons pe_int (pa_cons pe_int pa_nil)))) pa_nil)) (pa_cons (pe_cal c_alike hr (by rfl) (pa_cons (pe_lst (pa_cons pe_int (pa_cons pe_int (pa_cons pe_int pa_nil)))) pa_nil)) pa_nil)) (by rfl))
    (pss_cons (ps_if (PW.pt (pw_or (pt_not (pt_val (pe_callB (r := rIsi K) call_isi (by rfl) B.isi PyProof.Rows.boot_isinstance (pa_cons (pv 6) (pa_cons (pe_glob (v := .ref C_Alike) (by rfl) g_Alike rfl) pa_nil))))) (pw_or (pt_cmpR (r := rNeD K) (op_neD hr.units) (pe_fld (pv 6) rfl) (pe_lst (pa_cons (pe_tup (pa_cons pe_int (pa_cons pe_int pa_nil))) pa_nil)) (nomark _)) (pw_or1 (pt_not (pt_val (pe_callB (r := rIsi K) call_isi (by rfl) B.isi PyProof.Rows.boot_isinstance (pa_cons (pv 7) (pa_cons (pe_glob (v := .ref C_Never) (by rfl) g_Never rfl) pa_nil)))))))))
    (pss_one (ps_ret pe_bl))
    pss_nil)
    (pss_cons (ps_set (i := 6) sc_law.nd rfl (.inl rfl) (pe_cal c_alike hr (by rfl) (pa_cons (pe_lst (pa_cons pe_int (pa_cons pe_int (pa_cons pe_int (pa_cons pe_int pa_nil))))) pa_nil)))
    (pss_cons (ps_if (PW.pt (pw_or (pt_not (pt_val (pe_callB (r := rIsi K) call_isi (by rfl) B.isi PyProof.Rows.boot_isinstance (pa_cons (pv 6) (pa_cons (pe_glob (v := .ref C_Alike) (by rfl) g_Alike rfl) pa_nil))))) (pw_or1 (pt_cmpR op_ne (pe_callB (r := rLenS K) call_len_seq (by rfl) B.len PySem.boot_len (pa_cons (pe_fld (pv 6) rfl) pa_nil)) pe_int (nomark _)))))
    (pss_one (ps_ret pe_bl))
    pss_nil)
    (pss_one (ps_ret (pe_and (pe_callB (r := rIsi K) call_isi (by rfl) B.isi PyProof.Rows.boot_isinstance (pa_cons (pe_cal c_alike hr (by rfl) (pa_cons (pe_lst (pa_cons pe_int (pa_cons pe_int pa_nil))) pa_nil)) (pa_cons (pe_glob (v := .ref C_Alike) (by rfl) g_Alike rfl) pa_nil))) (pe_one (pe_callB (r := rIsi K) call_isi (by rfl) B.isi PyProof.Rows.boot_isinstance (pa_cons (pe_cal c_alike hr (by rfl) (pa_cons (pe_lst (pa_cons pe_int (pa_cons pe_int pa_nil))) pa_nil)) (pa_cons (pe_glob (v := .ref C_Never) (by rfl) g_Never rfl) pa_nil))))))))))))), ?_⟩
    obtain ⟨cs, ecs, hcs, lcs⟩ := cut63 ns
    refine ⟨.ref a, rfl, 63, rfl, a, _, rfl, hS, fun sc hsc => ?_⟩
    rw [ecs]
    have hSc : Lst (upd H sc (.lst (cs.map V.int))) sc cs := upd_same
    have bcs : ∀ z ∈ cs, bits z ≤ 1048576 := fun z hz => hb z (hcs z hz)
    generalize upd H sc (.lst (cs.map V.int)) = H0 at hSc
    obtain ⟨mn, emn, mn0, mn1⟩ : ∃ mn : Int, (if ((cs.map V.int).length : Int) < 2 then ((cs.map V.int).length : Int) else 2) = mn ∧ 0 ≤ mn ∧ mn ≤ 2 := ⟨_, rfl, by split <;> omega, by split <;> omega⟩
    obtain ⟨len, elen, len1, len2⟩ : ∃ len : Int, (if mn > 1 then mn else 1) = len ∧ 0 ≤ len ∧ len ≤ 2 := ⟨_, rfl, by split <;> omega, by split <;> omega⟩
    refine ⟨.ref sc, rfl, sc, _, rfl, .inl hSc.sq, _, _, rfl, ?_⟩
    rw [emn]
    refine ⟨_, _, rfl, ?_⟩
    rw [elen]
    refine ⟨_, _, rfl, ⟨by omega, by omega, by omega, by omega⟩, for_range
      (fun i σ H' => ∃ x1 x2 x3 x4 x5 x6 x7 x8, σ = [some (.ref sc), x1, x2, x3, x4, x5, x6, x7, x8] ∧ Same H0 H')
      ⟨none, none, none, none, none, none, none, none, rfl, Same.refl _⟩ (fun i σ H1 hi h => ?_) (fun σ H1 h => ?_)⟩
    · obtain ⟨x1, x2, x3, x4, x5, x6, x7, x8, rfl, s1⟩ := h
      have hSc1 := hSc.mono s1
      have hi2 : i < 2 := by omega
      -- five
      refine ⟨.ref sc, rfl, .int (0 + (i : Int)), rfl, sc, cs, _, rfl, hSc1.sq, by omega, fun c hc => ?_⟩
      have bc : bits c ≤ 1048576 := by
        rcases hc with rfl | hc
        · decide
        · exact bcs c hc
      refine ⟨c, 9, rfl, by omega, by decide, by decide, fun H2 v s2 => ?_⟩
      refine ⟨_, _, rfl, rfl, (by show (0 : Int) < 8; decide), _, _, rfl, rfl, ⟨by decide, by decide⟩, ?_⟩
      obtain ⟨fv, efv, fv0, fv1⟩ : ∃ fv : Int, v % 8 / 7 = fv ∧ 0 ≤ fv ∧ fv ≤ 1 := ⟨_, rfl, by omega, by omega⟩
      -- the row
      refine ⟨.ref sc, rfl, .int (0 + (i : Int)), rfl, _, rfl, _, _, rfl, rfl, _, rfl, _, _, rfl, rfl, .inl ⟨by decide, by decide⟩, _, _, rfl, rfl, ?_⟩
      rw [efv]
      refine ⟨sc, cs, _, _, _, rfl, (hSc1.mono s2).sq, bcs, by omega, by omega, by omega, by omega, by omega, by omega, fun H3 r ms s3 hr0 hR ok0 => ?_⟩
      have ok : Small ms := ok0.small (by omega) (by omega)
      -- even
      obtain ⟨m0, mr, rfl⟩ : ∃ m0 mr, ms = m0 :: mr := by
        cases ms with
        | nil => exact absurd ok.1 (by decide)
        | cons x xs => exact ⟨x, xs, rfl⟩
      have hm0 := ok0.2.2 m0 List.mem_cons_self
      have c1 := cut1 (m0 :: mr)
      refine ⟨.ref r, rfl, 1, rfl, r, _, rfl, hR.sq, fun e1 he1 => ?_⟩
      rw [c1]
      have a1 : Same H3 (upd H3 e1 (.lst [.int m0])) := same_new he1
      have b1 : (upd H3 e1 (.lst [.int m0])) e1 = some (.lst [.int m0]) := upd_same
      show tLc _ _ _ _ _ _ (upd H3 e1 (.lst [.int m0])) _
      generalize upd H3 e1 (.lst [.int m0]) = G1 at a1 b1
      refine ⟨.ref r, rfl, 1, rfl, r, _, rfl, (hR.mono a1).sq, fun e2 he2 => ?_⟩
      rw [c1]
      have a2 : Same G1 (upd G1 e2 (.lst [.int m0])) := same_new he2
      have b2 : Lst (upd G1 e2 (.lst [.int m0])) e2 [m0] := upd_same
      refine ⟨e2, rfl, ⟨_, (show Lst (upd G1 e2 (.lst ((List.take 1 (m0 :: mr)).map V.int))) e2 [m0] from upd_same).sq⟩, fun D hD => ?_⟩
      refine lc_list (K := K) (a := e2) (xs := [.int m0]) (fun i H' => Same (upd G1 e2 (.lst [.int m0])) H' ∧ H' D = some (.lst ([V.int (12 - m0)].take i))) ⟨same_new hD, upd_same⟩ (fun i H' _ h => (b2.mono h.1).sq) (fun i x H' hx h => ?_) (fun H' h => ?_)
      · have hi0 : i = 0 := by
          have := (List.getElem?_eq_some_iff.mp hx).1
          simp at this
          exact this
        subst hi0
        cases hx
        refine ⟨rfl, iteT (B := True) ⟨_, rfl, _, _, rfl, rfl, ?_⟩⟩
        exact ⟨[], h.2, by decide, same_upd2 h.1 hD, upd_same⟩
      · obtain ⟨s4, hD4⟩ := h
        have a12 := a2.trans s4
        refine ⟨e1, D, [.int m0], [.int (12 - m0)], rfl, rfl, a12 _ _ b1, hD4, (by show 2 ≤ sizeLine; decide), fun e3 he3 => ?_⟩
        have a3 : Same H' (upd H' e3 (.lst ([V.int m0] ++ [V.int (12 - m0)]))) := same_new he3
        have b3 : (upd H' e3 (.lst ([V.int m0] ++ [V.int (12 - m0)]))) e3 = some (.lst ([V.int m0] ++ [V.int (12 - m0)])) := upd_same
        generalize upd H' e3 (.lst ([V.int m0] ++ [V.int (12 - m0)])) = G3 at a3 b3
        have a13 := (a1.trans a12).trans a3
        refine ⟨.ref r, rfl, 1, rfl, r, _, rfl, (hR.mono a13).sq, fun e4 he4 => ?_⟩
        rw [c1]
        have a4 : Same G3 (upd G3 e4 (.lst ((List.take 1 (m0 :: mr)).map V.int))) := same_new he4
        have b4 : (upd G3 e4 (.lst ((List.take 1 (m0 :: mr)).map V.int))) e4 = some (.lst [V.int m0]) := upd_same
        generalize upd G3 e4 (.lst ((List.take 1 (m0 :: mr)).map V.int)) = G4 at a4 b4
        refine ⟨e3, e4, [V.int m0] ++ [V.int (12 - m0)], [V.int m0], rfl, rfl, a4 _ _ b3, b4, (by show 3 ≤ sizeLine; decide), fun ev hev => ?_⟩
        have a5 : Same G4 (upd G4 ev (.lst ([V.int m0] ++ [V.int (12 - m0)] ++ [V.int m0]))) := same_new hev
        have hEv : Lst (upd G4 ev (.lst ([V.int m0] ++ [V.int (12 - m0)] ++ [V.int m0]))) ev [m0, 12 - m0, m0] := upd_same
        have a15 := (a13.trans a4).trans a5
        have okE : Small [m0, 12 - m0, m0] := by
          refine ⟨by simp, by simp, fun x hx => ?_⟩
          simp only [List.mem_cons, List.not_mem_nil, or_false] at hx
          omega
        generalize upd G4 ev (.lst ([V.int m0] ++ [V.int (12 - m0)] ++ [V.int m0])) = G5 at a15 hEv
        -- the three rows
        have hR5 := hR.mono a15
        refine ⟨.ref r, rfl, .ref r, rfl, r, _, rfl, hR5.sq, fun rv hrv => ?_⟩
        have a6 : Same G5 (upd G5 rv (.lst ((m0 :: mr).map V.int).reverse)) := same_new hrv
        have hRv : Lst (upd G5 rv (.lst ((m0 :: mr).map V.int).reverse)) rv (m0 :: mr).reverse := by
          unfold Lst
          rw [upd_same, List.map_reverse]
        generalize upd G5 rv (.lst ((m0 :: mr).map V.int).reverse) = G6 at a6 hRv
        refine ⟨.ref ev, rfl, (by show 3 ≤ sizeLine; decide), fun T hT => ?_⟩
        have a7 : Same G6 (upd G6 T (.tup [.ref r, .ref rv, .ref ev])) := same_new hT
        have hTT : (upd G6 T (.tup [.ref r, .ref rv, .ref ev])) T = some (.tup [.ref r, .ref rv, .ref ev]) := upd_same
        generalize upd G6 T (.tup [.ref r, .ref rv, .ref ev]) = G7 at a7 hTT
        have a67 := a6.trans a7
        have three : ∀ v ∈ [V.ref r, .ref rv, .ref ev], IsRS G7 v := fun v hv => by
          simp only [List.mem_cons, List.not_mem_nil, or_false] at hv
          rcases hv with rfl | rfl | rfl
          · exact ⟨r, _, rfl, hR5.mono a67, ok⟩
          · exact ⟨rv, _, rfl, hRv.mono a7, ok.rev⟩
          · exact ⟨ev, _, rfl, hEv.mono a67, okE⟩
        have sG : Same H0 G7 := (((s1.trans s2).trans s3).trans a15).trans a67
        refine ⟨T, rfl, ⟨_, SqT.of hTT⟩, for_tup (K := K) (a := T) (xs := [V.ref r, .ref rv, .ref ev])
          (fun _ σ H' => ∃ x5 x6 x7, σ = [some (.ref sc), some (.int (0 + (i : Int))), some (.int (v % 8 / 7)), some (.ref r), some (.ref ev), x5, x6, x7, x8] ∧ Same G7 H')
          ⟨_, _, _, rfl, Same.refl _⟩ (fun k σ H' _ h => ?_) (fun k x σ HA hx h => ?_) (fun σ HA h => ?_)⟩
        · obtain ⟨_, _, _, _, sA⟩ := h
          exact SqT.of (sA _ _ hTT)
        · obtain ⟨x5, x6, x7, rfl, sA⟩ := h
          obtain ⟨b, rr, rfl, hb2, okb⟩ := three x (List.mem_of_getElem? hx)
          have sGA := a67.trans sA
          refine ⟨.ref b, rfl, .ref r, rfl, (by show 2 ≤ sizeLine; decide), fun l1 hl1 => ⟨(by show 2 ≤ sizeLine; decide), fun l2 hl2 => ⟨(by show 3 ≤ sizeLine; decide), fun ot hot => ?_⟩⟩⟩
          have d1 : Same HA (upd HA l1 (.lst [.int 1, .int 3])) := same_new hl1
          have d2 : Same (upd HA l1 (.lst [.int 1, .int 3])) (upd (upd HA l1 (.lst [.int 1, .int 3])) l2 (.lst [.int 0, .int 1])) := same_new hl2
          have d3 : Same (upd (upd HA l1 (.lst [.int 1, .int 3])) l2 (.lst [.int 0, .int 1])) (upd (upd (upd HA l1 (.lst [.int 1, .int 3])) l2 (.lst [.int 0, .int 1])) ot (.lst [.ref r, .ref l1, .ref l2])) := same_new hot
          have dA := (d1.trans d2).trans d3
          refine ⟨b, ot, rr, [.ref r, .ref l1, .ref l2], rfl, (hb2.mono sA).mono dA, okb, upd_same, fun v hv => ?_, by simp, fun HB sB => ⟨_, rfl, iteF ?_⟩⟩
          · simp only [List.mem_cons, List.not_mem_nil, or_false] at hv
            rcases hv with rfl | rfl | rfl
            · exact ⟨r, _, rfl, (hR5.mono sGA).mono dA, ok⟩
            · exact ⟨l1, [1, 3], rfl, d3 _ _ (d2 _ _ upd_same), by unfold Small RowOk; decide⟩
            · exact ⟨l2, [0, 1], rfl, d3 _ _ upd_same, by unfold Small RowOk; decide⟩
          · exact ⟨_, _, _, rfl, (sA.trans dA).trans sB⟩
        · obtain ⟨x5, x6, x7, rfl, sA⟩ := h
          exact ⟨_, _, _, _, _, _, _, _, rfl, sG.trans sA⟩
    · -- the end
      obtain ⟨x1, x2, x3, x4, x5, x6, x7, x8, rfl, s1⟩ := h
      refine ⟨(by show 3 ≤ sizeLine; decide), fun l1 hl1 => ?_⟩
      refine ⟨l1, [0, 1, 2], rfl, upd_same, by unfold Small RowOk; decide, fun HA xa A1 sA nA anA _ afA => ?_⟩
      obtain ⟨p1, rfl, lp1, r1, rb1, al1⟩ := ans_few afA (n := 1) ⟨[1, 1, 1], by decide, by decide⟩ (by decide)
      refine ⟨(by show 3 ≤ sizeLine; decide), fun l2 hl2 => ?_⟩
      have sB : Same HA (upd HA l2 (.lst [.int 0, .int 0, .int 3])) := same_new hl2
      refine ⟨l2, [0, 0, 3], rfl, upd_same, by unfold Small RowOk; decide, fun HB xb A2 sC nB anB _ afB => ?_⟩
      obtain rfl := ans_never afB (by decide) (by decide)
      have anB1 := (anA.mono sB).mono sC
      refine ⟨_, _, rfl, ?_⟩
      obtain ⟨t1, ty1, k1, _, _⟩ := isi_ans I cl_Alike cl_Never anB1
      refine ⟨.ref xa, rfl, _, _, _, _, true, rfl, .own _, ty1, k1, true, rfl, iteF (A := True) ?_⟩
      obtain ⟨g1, w1, ⟨dx1, hx1⟩, hg1, pr1⟩ := anB1
      refine ⟨.ref xa, rfl, xa, C_Alike, dx1, _, _, rfl, hx1, cl_Alike.cl, nE, alF_ev g1, (by show 2 ≤ sizeLine; decide), fun t2 ht2 => ⟨(by show 1 ≤ sizeLine; decide), fun l3 hl3 => ?_⟩⟩
      have sD : Same HB (upd (upd HB t2 (.tup [.int 0, .int 2])) l3 (.lst [.ref t2])) := (same_new ht2).trans (same_new hl3)
      have ep1 : p1 = [(0, 2)] := by
        obtain ⟨p, rfl⟩ : ∃ p, p1 = [p] := by
          match p1, lp1 with
          | [p], _ => exact ⟨p, rfl⟩
        have h1 : rbeh [0, 1, 2] [p] = stepE [0, 1, 2] p := rfl
        rw [h1] at rb1
        unfold stepE at rb1
        split at rb1
        · rename_i c
          have e2 : evs [0, 1, 2] = [(0, 2)] := by decide
          rw [e2] at c
          rw [List.mem_singleton.mp c]
        · cases rb1
      subst ep1
      refine ⟨prsD [(0, 2)], prsD [(0, 2)], dp_prs (SqL.of (sD _ _ hg1)) (pr1.mono (Same.tups sD)), dp_prs (SqL.of upd_same) (.cons ⟨t2, rfl, (same_new hl3) _ _ upd_same⟩ .nil), shaped_prs _, shaped_prs _, _, rfl, itN (nq_prs _) ?_⟩
      have anB2 := anB.mono sD
      generalize upd (upd HB t2 (.tup [.int 0, .int 2])) l3 (.lst [.ref t2]) = HC at anB2
      obtain ⟨t3, ty3, _, k3, _⟩ := isi_ans I cl_Alike cl_Never anB2
      refine ⟨.ref xb, rfl, _, _, _, _, true, rfl, .own _, ty3, k3, true, rfl, iteF (A := True) ?_⟩
      refine ⟨(by show 4 ≤ sizeLine; decide), fun l4 hl4 => ?_⟩
      refine ⟨l4, [0, 0, 4, 4], rfl, upd_same, by unfold Small RowOk; decide, fun HD xc A3 sE nC anC _ afC => ?_⟩
      obtain ⟨p3, rfl, lp3, r3, rb3, al3⟩ := ans_few afC (n := 2) ⟨[2, 2, 2, 2], by decide, by decide⟩ (by decide)
      obtain ⟨t4, ty4, k4, _, _⟩ := isi_ans I cl_Alike cl_Never anC
      refine ⟨.ref xc, rfl, _, _, _, _, true, rfl, .own _, ty4, k4, true, rfl, iteF (A := True) ?_⟩
      obtain ⟨g3, w3, ⟨dx3, hx3⟩, hg3, pr3⟩ := anC
      refine ⟨.ref xc, rfl, xc, C_Alike, dx3, _, _, rfl, hx3, cl_Alike.cl, nE, alF_ev g3, g3, w3, rfl, .inl (SqL.of hg3), rfl, _, rfl, itN (by rw [dec_int, pd_len pr3, lp3]; decide) ?_⟩
      refine ⟨(by show 2 ≤ sizeLine; decide), fun l5 hl5 => ?_⟩
      refine ⟨l5, [0, 2], rfl, upd_same, by unfold Small RowOk; decide, fun HE xd A4 sF nD anD _ afD => ?_⟩
      obtain ⟨p4, rfl, lp4, r4, rb4, al4⟩ := ans_few afD (n := 1) ⟨[1, 1], by decide, by decide⟩ (by decide)
      obtain ⟨t5, ty5, k5, _, _⟩ := isi_ans I cl_Alike cl_Never anD
      refine ⟨_, _, _, _, true, rfl, .own _, ty5, k5, true, rfl, iteT (B := True) ?_⟩
      refine ⟨(by show 2 ≤ sizeLine; decide), fun l6 hl6 => ?_⟩
      refine ⟨l6, [0, 1], rfl, upd_same, by unfold Small RowOk; decide, fun HF xe A5 sH nF anF _ afF => ?_⟩
      obtain rfl := ans_never afF (by decide) (by decide)
      obtain ⟨t6, ty6, _, k6, _⟩ := isi_ans I cl_Alike cl_Never anF
      exact ⟨_, _, _, _, true, rfl, .own _, ty6, k6, q HF⟩
end
end EG

/-! isinstance of an own class, from what the top has written. -/
namespace EG
open PySem L2
theorem kit_mk {K : PySem.W.Frag} {C D : Addr} {b : Bool} (hc : PySem.W.isClsIn K D = true) (ht : PySem.W.typeIn K (.ref D) = some (.type "type")) (hs : PySem.W.subIn K (.ref C) (.ref D) = some b) (hd : PySem.W.subIn K (.ref D) (.ref D) = some true) :
    PySem.W.kitOne K (.ref C) (.ref D) = some b := by
  unfold PySem.W.kitOne
  by_cases e : C = D
  · subst e
    rw [hs] at hd
    rw [if_pos (beq_self_eq_true _)]
    exact hd.symm
  · have ne : ¬ ((Value.ref C == Value.ref D) = true) := fun z => e (Value.ref.inj (eq_of_beq z))
    rw [if_neg ne]
    show (if ((PySem.W.clsIn K D).isSome && PySem.W.typeIn K (.ref D) == some (.type "type")) = true then PySem.W.subIn K (.ref C) (.ref D) else none) = some b
    have hc2 : (PySem.W.clsIn K D).isSome = true := hc
    rw [ht, hc2, if_pos (by decide)]
    exact hs
end EG

/-! What the top has written, and the law. -/
namespace EG
open PySem L2
theorem all_mk {l : PySem.W.OpenLaw} {w : World} {K : PySem.W.Frag} {h : Heap} {mg : Str → Option Value} {fa : Addr} (X : K.In h) (G : h.Ns mainGlobals mg) (hfa : mg "law" = some (.ref fa))
    {f0 f1 f2 f3 f4 f5 f6 f7 f8 f9 f10 f11 f12 f13 f14 f15 f16 f17 f18 f19 f20 : Addr} {od0 an0 od1 an1 od2 an2 od3 an3 od4 an4 od5 an5 od6 an6 od7 an7 od8 an8 od9 an9 od10 an10 od11 an11 od12 an12 od13 an13 od14 an14 od15 an15 od16 an16 od17 an17 od18 an18 od19 an19 od20 an20 : Option Addr} {sl0 sl1 sl2 sl3 sl4 sl5 sl6 sl7 sl8 sl9 sl10 sl11 sl12 sl13 sl14 sl15 sl16 sl17 sl18 sl19 sl20 : Array (Option Value)}
    {oc0 kV0 dc0 pm0 cd0 ct0 oc1 kV1 dc1 pm1 cd1 ct1 oc2 kV2 dc2 pm2 cd2 ct2 oc3 kV3 dc3 pm3 cd3 ct3 oc4 kV4 dc4 pm4 cd4 ct4 oc5 kV5 dc5 pm5 cd5 ct5 oc6 kV6 dc6 pm6 cd6 ct6 oc7 kV7 dc7 pm7 cd7 ct7 oc8 kV8 dc8 pm8 cd8 ct8 oc9 kV9 dc9 pm9 cd9 ct9 oc10 kV10 dc10 pm10 cd10 ct10 oc11 kV11 dc11 pm11 cd11 ct11 oc12 kV12 dc12 pm12 cd12 ct12 oc13 kV13 dc13 pm13 cd13 ct13 oc14 kV14 dc14 pm14 cd14 ct14 oc15 kV15 dc15 pm15 cd15 ct15 oc16 kV16 dc16 pm16 cd16 ct16 oc17 kV17 dc17 pm17 cd17 ct17 oc18 kV18 dc18 pm18 cd18 ct18 oc19 kV19 dc19 pm19 cd19 ct19 oc20 kV20 dc20 pm20 cd20 ct20 : Value} {t_FEW t_SMALL : Tok}
    (a0 : PySem.W.nsIn K mainGlobals "is_whole" = some (some (.ref f0))) (l0 : K.lookup f0 = some ⟨oc0, od0, .func (PySem.W.fnOf "is_whole" "is_whole" (defArgs s_is_whole) (defBody s_is_whole) (defScope s_is_whole) .none kV0 dc0 pm0 an0 cd0 ct0), sl0⟩)
    (c0 : PySem.W.codeIn K cd0 "is_whole" = true) (k0 : PySem.W.keepIn K (.ref f0) = true)
    (a1 : PySem.W.nsIn K mainGlobals "check_row" = some (some (.ref f1))) (l1 : K.lookup f1 = some ⟨oc1, od1, .func (PySem.W.fnOf "check_row" "check_row" (defArgs s_check_row) (defBody s_check_row) (defScope s_check_row) .none kV1 dc1 pm1 an1 cd1 ct1), sl1⟩)
    (c1 : PySem.W.codeIn K cd1 "check_row" = true) (k1 : PySem.W.keepIn K (.ref f1) = true)
    (a2 : PySem.W.nsIn K mainGlobals "evenings_of" = some (some (.ref f2))) (l2 : K.lookup f2 = some ⟨oc2, od2, .func (PySem.W.fnOf "evenings_of" "evenings_of" (defArgs s_evenings_of) (defBody s_evenings_of) (defScope s_evenings_of) .none kV2 dc2 pm2 an2 cd2 ct2), sl2⟩)
    (c2 : PySem.W.codeIn K cd2 "evenings_of" = true) (k2 : PySem.W.keepIn K (.ref f2) = true)
    (a3 : PySem.W.nsIn K mainGlobals "behind" = some (some (.ref f3))) (l3 : K.lookup f3 = some ⟨oc3, od3, .func (PySem.W.fnOf "behind" "behind" (defArgs s_behind) (defBody s_behind) (defScope s_behind) .none kV3 dc3 pm3 an3 cd3 ct3), sl3⟩)
    (c3 : PySem.W.codeIn K cd3 "behind" = true) (k3 : PySem.W.keepIn K (.ref f3) = true)
    (a4 : PySem.W.nsIn K mainGlobals "row_behind" = some (some (.ref f4))) (l4 : K.lookup f4 = some ⟨oc4, od4, .func (PySem.W.fnOf "row_behind" "row_behind" (defArgs s_row_behind) (defBody s_row_behind) (defScope s_row_behind) .none kV4 dc4 pm4 an4 cd4 ct4), sl4⟩)
    (c4 : PySem.W.codeIn K cd4 "row_behind" = true) (k4 : PySem.W.keepIn K (.ref f4) = true)
    (a5 : PySem.W.nsIn K mainGlobals "are_alike" = some (some (.ref f5))) (l5 : K.lookup f5 = some ⟨oc5, od5, .func (PySem.W.fnOf "are_alike" "are_alike" (defArgs s_are_alike) (defBody s_are_alike) (defScope s_are_alike) .none kV5 dc5 pm5 an5 cd5 ct5), sl5⟩)
    (c5 : PySem.W.codeIn K cd5 "are_alike" = true) (k5 : PySem.W.keepIn K (.ref f5) = true)
    (a6 : PySem.W.nsIn K mainGlobals "way_to_alike" = some (some (.ref f6))) (l6 : K.lookup f6 = some ⟨oc6, od6, .func (PySem.W.fnOf "way_to_alike" "way_to_alike" (defArgs s_way_to_alike) (defBody s_way_to_alike) (defScope s_way_to_alike) .none kV6 dc6 pm6 an6 cd6 ct6), sl6⟩)
    (c6 : PySem.W.codeIn K cd6 "way_to_alike" = true) (k6 : PySem.W.keepIn K (.ref f6) = true)
    (a7 : PySem.W.nsIn K mainGlobals "alike" = some (some (.ref f7))) (l7 : K.lookup f7 = some ⟨oc7, od7, .func (PySem.W.fnOf "alike" "alike" (defArgs s_alike) (defBody s_alike) (defScope s_alike) .none kV7 dc7 pm7 an7 cd7 ct7), sl7⟩)
    (c7 : PySem.W.codeIn K cd7 "alike" = true) (k7 : PySem.W.keepIn K (.ref f7) = true)
    (a8 : PySem.W.nsIn K mainGlobals "_law_cell_at" = some (some (.ref f8))) (l8 : K.lookup f8 = some ⟨oc8, od8, .func (PySem.W.fnOf "_law_cell_at" "_law_cell_at" (defArgs s_l_cell_at) (defBody s_l_cell_at) (defScope s_l_cell_at) .none kV8 dc8 pm8 an8 cd8 ct8), sl8⟩)
    (c8 : PySem.W.codeIn K cd8 "_law_cell_at" = true) (k8 : PySem.W.keepIn K (.ref f8) = true)
    (a9 : PySem.W.nsIn K mainGlobals "_law_draw" = some (some (.ref f9))) (l9 : K.lookup f9 = some ⟨oc9, od9, .func (PySem.W.fnOf "_law_draw" "_law_draw" (defArgs s_l_draw) (defBody s_l_draw) (defScope s_l_draw) .none kV9 dc9 pm9 an9 cd9 ct9), sl9⟩)
    (c9 : PySem.W.codeIn K cd9 "_law_draw" = true) (k9 : PySem.W.keepIn K (.ref f9) = true)
    (a10 : PySem.W.nsIn K mainGlobals "_law_value" = some (some (.ref f10))) (l10 : K.lookup f10 = some ⟨oc10, od10, .func (PySem.W.fnOf "_law_value" "_law_value" (defArgs s_l_value) (defBody s_l_value) (defScope s_l_value) .none kV10 dc10 pm10 an10 cd10 ct10), sl10⟩)
    (c10 : PySem.W.codeIn K cd10 "_law_value" = true) (k10 : PySem.W.keepIn K (.ref f10) = true)
    (a11 : PySem.W.nsIn K mainGlobals "_law_says" = some (some (.ref f11))) (l11 : K.lookup f11 = some ⟨oc11, od11, .func (PySem.W.fnOf "_law_says" "_law_says" (defArgs s_l_says) (defBody s_l_says) (defScope s_l_says) .none kV11 dc11 pm11 an11 cd11 ct11), sl11⟩)
    (c11 : PySem.W.codeIn K cd11 "_law_says" = true) (k11 : PySem.W.keepIn K (.ref f11) = true)
    (a12 : PySem.W.nsIn K mainGlobals "_law_row" = some (some (.ref f12))) (l12 : K.lookup f12 = some ⟨oc12, od12, .func (PySem.W.fnOf "_law_row" "_law_row" (defArgs s_l_row) (defBody s_l_row) (defScope s_l_row) .none kV12 dc12 pm12 an12 cd12 ct12), sl12⟩)
    (c12 : PySem.W.codeIn K cd12 "_law_row" = true) (k12 : PySem.W.keepIn K (.ref f12) = true)
    (a13 : PySem.W.nsIn K mainGlobals "_law_can" = some (some (.ref f13))) (l13 : K.lookup f13 = some ⟨oc13, od13, .func (PySem.W.fnOf "_law_can" "_law_can" (defArgs s_l_can) (defBody s_l_can) (defScope s_l_can) .none kV13 dc13 pm13 an13 cd13 ct13), sl13⟩)
    (c13 : PySem.W.codeIn K cd13 "_law_can" = true) (k13 : PySem.W.keepIn K (.ref f13) = true)
    (a14 : PySem.W.nsIn K mainGlobals "_law_evened" = some (some (.ref f14))) (l14 : K.lookup f14 = some ⟨oc14, od14, .func (PySem.W.fnOf "_law_evened" "_law_evened" (defArgs s_l_evened) (defBody s_l_evened) (defScope s_l_evened) .none kV14 dc14 pm14 an14 cd14 ct14), sl14⟩)
    (c14 : PySem.W.codeIn K cd14 "_law_evened" = true) (k14 : PySem.W.keepIn K (.ref f14) = true)
    (a15 : PySem.W.nsIn K mainGlobals "_law_levels" = some (some (.ref f15))) (l15 : K.lookup f15 = some ⟨oc15, od15, .func (PySem.W.fnOf "_law_levels" "_law_levels" (defArgs s_l_levels) (defBody s_l_levels) (defScope s_l_levels) .none kV15 dc15 pm15 an15 cd15 ct15), sl15⟩)
    (c15 : PySem.W.codeIn K cd15 "_law_levels" = true) (k15 : PySem.W.keepIn K (.ref f15) = true)
    (a16 : PySem.W.nsIn K mainGlobals "_law_walked" = some (some (.ref f16))) (l16 : K.lookup f16 = some ⟨oc16, od16, .func (PySem.W.fnOf "_law_walked" "_law_walked" (defArgs s_l_walked) (defBody s_l_walked) (defScope s_l_walked) .none kV16 dc16 pm16 an16 cd16 ct16), sl16⟩)
    (c16 : PySem.W.codeIn K cd16 "_law_walked" = true) (k16 : PySem.W.keepIn K (.ref f16) = true)
    (a17 : PySem.W.nsIn K mainGlobals "_law_fewest" = some (some (.ref f17))) (l17 : K.lookup f17 = some ⟨oc17, od17, .func (PySem.W.fnOf "_law_fewest" "_law_fewest" (defArgs s_l_fewest) (defBody s_l_fewest) (defScope s_l_fewest) .none kV17 dc17 pm17 an17 cd17 ct17), sl17⟩)
    (c17 : PySem.W.codeIn K cd17 "_law_fewest" = true) (k17 : PySem.W.keepIn K (.ref f17) = true)
    (a18 : PySem.W.nsIn K mainGlobals "_law_due" = some (some (.ref f18))) (l18 : K.lookup f18 = some ⟨oc18, od18, .func (PySem.W.fnOf "_law_due" "_law_due" (defArgs s_l_due) (defBody s_l_due) (defScope s_l_due) .none kV18 dc18 pm18 an18 cd18 ct18), sl18⟩)
    (c18 : PySem.W.codeIn K cd18 "_law_due" = true) (k18 : PySem.W.keepIn K (.ref f18) = true)
    (a19 : PySem.W.nsIn K mainGlobals "_law_right" = some (some (.ref f19))) (l19 : K.lookup f19 = some ⟨oc19, od19, .func (PySem.W.fnOf "_law_right" "_law_right" (defArgs s_l_right) (defBody s_l_right) (defScope s_l_right) .none kV19 dc19 pm19 an19 cd19 ct19), sl19⟩)
    (c19 : PySem.W.codeIn K cd19 "_law_right" = true) (k19 : PySem.W.keepIn K (.ref f19) = true)
    (a20 : PySem.W.nsIn K mainGlobals "law" = some (some (.ref f20))) (l20 : K.lookup f20 = some ⟨oc20, od20, .func (PySem.W.fnOf "law" "law" (defArgs s_law) (defBody s_law) (defScope s_law) .none kV20 dc20 pm20 an20 cd20 ct20), sl20⟩)
    (c20 : PySem.W.codeIn K cd20 "law" = true) (k20 : PySem.W.keepIn K (.ref f20) = true)
    (m_FEW : PySem.W.nsIn K mainGlobals "FEW" = some (some (.int 5 t_FEW)))
    (m_SMALL : PySem.W.nsIn K mainGlobals "SMALL" = some (some (.int 20 t_SMALL)))
    {C_Answer C_Alike C_Never fm0 fm1 fm2 : Addr} {odm0 anm0 odm1 anm1 odm2 anm2 : Option Addr} {slm0 slm1 slm2 : Array (Option Value)} {ocm0 kVm0 dcm0 pmm0 cdm0 ctm0 ocm1 kVm1 dcm1 pmm1 cdm1 ctm1 ocm2 kVm2 dcm2 pmm2 cdm2 ctm2 : Value}
    (aC_Answer : PySem.W.nsIn K mainGlobals "Answer" = some (some (.ref C_Answer)))
    (aC_Alike : PySem.W.nsIn K mainGlobals "Alike" = some (some (.ref C_Alike)))
    (pg_Alike : PySem.W.plainGet K C_Alike Str.empty = true)
    (hd_Alike : PySem.W.hasDictIn K C_Alike = true)
    (po_Alike : PySem.W.plainOver K C_Alike = true)
    (sa_Alike : PySem.W.findIn K (.ref C_Alike) "__setattr__" = some (some (.builtin "object.__setattr__")))
    (mk_Alike : PySem.W.makesIn K C_Alike = true)
    (kc_Alike : PySem.W.keepIn K (.ref C_Alike) = true)
    (ha_Alike : PySem.W.findIn K (.ref C_Alike) "__class__" = some (some (.builtin "object.__class__")))
    (hm_Alike : PySem.W.mroIn K C_Alike (.type "object") = some true)
    (aC_Never : PySem.W.nsIn K mainGlobals "Never" = some (some (.ref C_Never)))
    (pg_Never : PySem.W.plainGet K C_Never Str.empty = true)
    (hd_Never : PySem.W.hasDictIn K C_Never = true)
    (po_Never : PySem.W.plainOver K C_Never = true)
    (sa_Never : PySem.W.findIn K (.ref C_Never) "__setattr__" = some (some (.builtin "object.__setattr__")))
    (mk_Never : PySem.W.makesIn K C_Never = true)
    (kc_Never : PySem.W.keepIn K (.ref C_Never) = true)
    (ha_Never : PySem.W.findIn K (.ref C_Never) "__class__" = some (some (.builtin "object.__class__")))
    (hm_Never : PySem.W.mroIn K C_Never (.type "object") = some true)
    (hn0 : PySem.W.specialIn K (.builtin "object.__class__") "__get__" = some (some (.builtin "getset_descriptor.__get__"))) (ht0 : PySem.W.takesIn K (.builtin "object.__class__") = some true)
    (am0 : PySem.W.findIn K (.ref C_Alike) "__init__" = some (some (.ref fm0))) (im0 : PySem.W.isFn K (.ref fm0) = true) (lm0 : K.lookup fm0 = some ⟨ocm0, odm0, .func (PySem.W.fnOf "__init__" "Alike.__init__" (defArgs s_Alike_init) (defBody s_Alike_init) (defScope s_Alike_init) .none kVm0 dcm0 pmm0 anm0 cdm0 ctm0), slm0⟩)
    (cm0 : PySem.W.codeIn K cdm0 "Alike.__init__" = true) (km0 : PySem.W.keepIn K (.ref fm0) = true)
    (am1 : PySem.W.findIn K (.ref C_Alike) "shows" = some (some (.ref fm1))) (im1 : PySem.W.isFn K (.ref fm1) = true) (lm1 : K.lookup fm1 = some ⟨ocm1, odm1, .func (PySem.W.fnOf "shows" "Alike.shows" (defArgs s_Alike_shows) (defBody s_Alike_shows) (defScope s_Alike_shows) .none kVm1 dcm1 pmm1 anm1 cdm1 ctm1), slm1⟩)
    (cm1 : PySem.W.codeIn K cdm1 "Alike.shows" = true) (km1 : PySem.W.keepIn K (.ref fm1) = true)
    (am2 : PySem.W.findIn K (.ref C_Never) "shows" = some (some (.ref fm2))) (im2 : PySem.W.isFn K (.ref fm2) = true) (lm2 : K.lookup fm2 = some ⟨ocm2, odm2, .func (PySem.W.fnOf "shows" "Never.shows" (defArgs s_Never_shows) (defBody s_Never_shows) (defScope s_Never_shows) .none kVm2 dcm2 pmm2 anm2 cdm2 ctm2), slm2⟩)
    (cm2 : PySem.W.codeIn K cdm2 "Never.shows" = true) (km2 : PySem.W.keepIn K (.ref fm2) = true)
    (nE : PySem.W.findIn K (.ref C_Alike) "evenings" = some none)
    (i_Never : PySem.W.findIn K (.ref C_Never) "__init__" = some (some (.builtin "object.__init__")))
    (ic_Alike : PySem.W.isClsIn K C_Alike = true)
    (it_Alike : PySem.W.typeIn K (.ref C_Alike) = some (.type "type"))
    (is_Alike : PySem.W.subIn K (.ref C_Alike) (.ref C_Alike) = some true)
    (ic_Never : PySem.W.isClsIn K C_Never = true)
    (it_Never : PySem.W.typeIn K (.ref C_Never) = some (.type "type"))
    (is_Never : PySem.W.subIn K (.ref C_Never) (.ref C_Never) = some true)
    (ic_Answer : PySem.W.isClsIn K C_Answer = true)
    (it_Answer : PySem.W.typeIn K (.ref C_Answer) = some (.type "type"))
    (is_Answer : PySem.W.subIn K (.ref C_Answer) (.ref C_Answer) = some true)
    (sb2 : PySem.W.subIn K (.ref C_Alike) (.ref C_Never) = some false)
    (sb3 : PySem.W.subIn K (.ref C_Alike) (.ref C_Answer) = some true)
    (sb4 : PySem.W.subIn K (.ref C_Never) (.ref C_Alike) = some false)
    (sb6 : PySem.W.subIn K (.ref C_Never) (.ref C_Answer) = some true)
    (z0 : PySem.W.nsIn K mainGlobals "isinstance" = some none) (z1 : PySem.W.nsIn K mainGlobals "int" = some none) (z2 : PySem.W.nsIn K mainGlobals "bool" = some none) (z3 : PySem.W.nsIn K mainGlobals "list" = some none) (z4 : PySem.W.nsIn K mainGlobals "len" = some none) (z5 : PySem.W.nsIn K mainGlobals "all" = some none) (z6 : PySem.W.nsIn K mainGlobals "range" = some none) (z7 : PySem.W.nsIn K mainGlobals "enumerate" = some none) (z8 : PySem.W.nsIn K mainGlobals "tuple" = some none) (z9 : PySem.W.nsIn K mainGlobals "min" = some none) (z10 : PySem.W.nsIn K mainGlobals "max" = some none) (z11 : PySem.W.nsIn K mainGlobals "sorted" = some none) (z12 : PySem.W.nsIn K mainGlobals "sum" = some none) (z13 : PySem.W.nsIn K mainGlobals "set" = some none) (z14 : PySem.W.nsIn K mainGlobals "any" = some none) :
    ∃ fd : FuncData, (∀ (s : Shared) (v : Value), BindsTo s fd ⟨[v], []⟩ [("_law_script", v)]) ∧ ∀ base : Heap, K.In base → base.Ns mainGlobals mg → FnOk l.prog w K mg base CX0 6 fa fd ["_law_script"] (sp_law K) := by
  have e := hfa.symm.trans (PySem.W.mg_of X G a20)
  cases e
  have F_is_whole := fun_mk (st := s_is_whole) l0 c0 k0
  have F_check_row := fun_mk (st := s_check_row) l1 c1 k1
  have F_evenings_of := fun_mk (st := s_evenings_of) l2 c2 k2
  have F_behind := fun_mk (st := s_behind) l3 c3 k3
  have F_row_behind := fun_mk (st := s_row_behind) l4 c4 k4
  have F_are_alike := fun_mk (st := s_are_alike) l5 c5 k5
  have F_way_to_alike := fun_mk (st := s_way_to_alike) l6 c6 k6
  have F_alike := fun_mk (st := s_alike) l7 c7 k7
  have F_l_cell_at := fun_mk (st := s_l_cell_at) l8 c8 k8
  have F_l_draw := fun_mk (st := s_l_draw) l9 c9 k9
  have F_l_value := fun_mk (st := s_l_value) l10 c10 k10
  have F_l_says := fun_mk (st := s_l_says) l11 c11 k11
  have F_l_row := fun_mk (st := s_l_row) l12 c12 k12
  have F_l_can := fun_mk (st := s_l_can) l13 c13 k13
  have F_l_evened := fun_mk (st := s_l_evened) l14 c14 k14
  have F_l_levels := fun_mk (st := s_l_levels) l15 c15 k15
  have F_l_walked := fun_mk (st := s_l_walked) l16 c16 k16
  have F_l_fewest := fun_mk (st := s_l_fewest) l17 c17 k17
  have F_l_due := fun_mk (st := s_l_due) l18 c18 k18
  have F_l_right := fun_mk (st := s_l_right) l19 c19 k19
  have F_law := fun_mk (st := s_law) l20 c20 k20
  have b_is_whole := F_is_whole.binds (ps := ["thing"]) fun _ _ _ _ _ _ us hl => match us, hl with | [_], _ => rfl
  have b_check_row := F_check_row.binds (ps := ["row", "most", "greatest"]) fun _ _ _ _ _ _ us hl => match us, hl with | [_, _, _], _ => rfl
  have b_evenings_of := F_evenings_of.binds (ps := ["row"]) fun _ _ _ _ _ _ us hl => match us, hl with | [_], _ => rfl
  have b_behind := F_behind.binds (ps := ["row", "evening"]) fun _ _ _ _ _ _ us hl => match us, hl with | [_, _], _ => rfl
  have b_row_behind := F_row_behind.binds (ps := ["row", "some"]) fun _ _ _ _ _ _ us hl => match us, hl with | [_, _], _ => rfl
  have b_are_alike := F_are_alike.binds (ps := ["row"]) fun _ _ _ _ _ _ us hl => match us, hl with | [_], _ => rfl
  have b_way_to_alike := F_way_to_alike.binds (ps := ["row"]) fun _ _ _ _ _ _ us hl => match us, hl with | [_], _ => rfl
  have b_alike := F_alike.binds (ps := ["row"]) fun _ _ _ _ _ _ us hl => match us, hl with | [_], _ => rfl
  have b_l_cell_at := F_l_cell_at.binds (ps := ["_law_script", "_law_k"]) fun _ _ _ _ _ _ us hl => match us, hl with | [_, _], _ => rfl
  have b_l_draw := F_l_draw.binds (ps := ["_law_cell", "_law_k", "_law_many"]) fun _ _ _ _ _ _ us hl => match us, hl with | [_, _, _], _ => rfl
  have b_l_value := F_l_value.binds (ps := ["_law_cell", "_law_turn"]) fun _ _ _ _ _ _ us hl => match us, hl with | [_, _], _ => rfl
  have b_l_says := F_l_says.binds (ps := ["_law_said", "_law_due_here"]) fun _ _ _ _ _ _ us hl => match us, hl with | [_, _], _ => rfl
  have b_l_row := F_l_row.binds (ps := ["_law_script", "_law_by", "_law_most", "_law_greatest"]) fun _ _ _ _ _ _ us hl => match us, hl with | [_, _, _, _], _ => rfl
  have b_l_can := F_l_can.binds (ps := ["_law_row_here"]) fun _ _ _ _ _ _ us hl => match us, hl with | [_], _ => rfl
  have b_l_evened := F_l_evened.binds (ps := ["_law_row_here", "_law_pair"]) fun _ _ _ _ _ _ us hl => match us, hl with | [_, _], _ => rfl
  have b_l_levels := F_l_levels.binds (ps := ["_law_row_here"]) fun _ _ _ _ _ _ us hl => match us, hl with | [_], _ => rfl
  have b_l_walked := F_l_walked.binds (ps := ["_law_row_here", "_law_pairs"]) fun _ _ _ _ _ _ us hl => match us, hl with | [_, _], _ => rfl
  have b_l_fewest := F_l_fewest.binds (ps := ["_law_row_here"]) fun _ _ _ _ _ _ us hl => match us, hl with | [_], _ => rfl
  have b_l_due := F_l_due.binds (ps := ["_law_row_here", "_law_found"]) fun _ _ _ _ _ _ us hl => match us, hl with | [_, _], _ => rfl
  have b_l_right := F_l_right.binds (ps := ["_law_row_here", "_law_others"]) fun _ _ _ _ _ _ us hl => match us, hl with | [_, _], _ => rfl
  have g_FEW := PySem.W.mg_of X G m_FEW
  have g_SMALL := PySem.W.mg_of X G m_SMALL
  have g_Answer := PySem.W.mg_of X G aC_Answer
  have g_Alike := PySem.W.mg_of X G aC_Alike
  have cl_Alike : ClF K C_Alike := ⟨⟨pg_Alike, hd_Alike, po_Alike, sa_Alike⟩, mk_Alike, kc_Alike, ha_Alike, hn0, ht0, hm_Alike⟩
  have g_Never := PySem.W.mg_of X G aC_Never
  have cl_Never : ClF K C_Never := ⟨⟨pg_Never, hd_Never, po_Never, sa_Never⟩, mk_Never, kc_Never, ha_Never, hn0, ht0, hm_Never⟩
  have F_Alike_init := fun_mk (st := s_Alike_init) lm0 cm0 km0
  have b_Alike_init := F_Alike_init.binds (ps := ["self", "evenings"]) fun _ _ _ _ _ _ us hl => match us, hl with | [_, _], _ => rfl
  have F_Alike_shows := fun_mk (st := s_Alike_shows) lm1 cm1 km1
  have b_Alike_shows := F_Alike_shows.binds (ps := ["self", "row"]) fun _ _ _ _ _ _ us hl => match us, hl with | [_, _], _ => rfl
  have F_Never_shows := fun_mk (st := s_Never_shows) lm2 cm2 km2
  have b_Never_shows := F_Never_shows.binds (ps := ["self", "row"]) fun _ _ _ _ _ _ us hl => match us, hl with | [_, _], _ => rfl
  have B : Blt mg := ⟨PySem.W.mg_none_of X G z0, PySem.W.mg_none_of X G z1, PySem.W.mg_none_of X G z2, PySem.W.mg_none_of X G z3, PySem.W.mg_none_of X G z4, PySem.W.mg_none_of X G z5, PySem.W.mg_none_of X G z6, PySem.W.mg_none_of X G z7, PySem.W.mg_none_of X G z8, PySem.W.mg_none_of X G z9, PySem.W.mg_none_of X G z10, PySem.W.mg_none_of X G z11, PySem.W.mg_none_of X G z12, PySem.W.mg_none_of X G z13, PySem.W.mg_none_of X G z14⟩
  refine ⟨PySem.W.fnOf "law" "law" (defArgs s_law) (defBody s_law) (defScope s_law) .none kV20 dc20 pm20 an20 cd20 ct20, fun s v => .of_eq rfl, fun base _ _ => ?_⟩
  have c_is_whole : Cal CX0 l.prog w K mg base "is_whole" ["thing"] 1 (sp_is_whole K) := ⟨_, _, ok_is_whole F_is_whole B, PySem.W.mg_of X G a0, F_is_whole.kp, b_is_whole⟩
  have c_check_row : Cal CX0 l.prog w K mg base "check_row" ["row", "most", "greatest"] 2 (sp_check_row) := ⟨_, _, ok_check_row F_check_row B c_is_whole, PySem.W.mg_of X G a1, F_check_row.kp, b_check_row⟩
  have c_evenings_of : Cal CX0 l.prog w K mg base "evenings_of" ["row"] 1 (sp_evenings_of K) := ⟨_, _, ok_evenings_of F_evenings_of B, PySem.W.mg_of X G a2, F_evenings_of.kp, b_evenings_of⟩
  have c_behind : Cal CX0 l.prog w K mg base "behind" ["row", "evening"] 1 (sp_behind K) := ⟨_, _, ok_behind F_behind B, PySem.W.mg_of X G a3, F_behind.kp, b_behind⟩
  have c_row_behind : Cal CX0 l.prog w K mg base "row_behind" ["row", "some"] 2 (sp_row_behind K) := ⟨_, _, ok_row_behind F_row_behind c_evenings_of c_behind, PySem.W.mg_of X G a4, F_row_behind.kp, b_row_behind⟩
  have c_are_alike : Cal CX0 l.prog w K mg base "are_alike" ["row"] 1 (sp_are_alike K) := ⟨_, _, ok_are_alike F_are_alike B, PySem.W.mg_of X G a5, F_are_alike.kp, b_are_alike⟩
  have c_way_to_alike : Cal CX0 l.prog w K mg base "way_to_alike" ["row"] 2 (sp_way) := ⟨_, _, ok_way F_way_to_alike B c_evenings_of c_behind c_are_alike, PySem.W.mg_of X G a6, F_way_to_alike.kp, b_way_to_alike⟩
  have c_Alike_init : CalI CX0 l.prog w K mg base C_Alike ["self", "evenings"] 1 (sp_al_init C_Alike) := ⟨_, _, ok_al_init F_Alike_init B cl_Alike nE, ⟨mk_Alike, am0, im0, kc_Alike⟩, b_Alike_init⟩
  have c_Alike_shows : CalM CX0 l.prog w K mg base C_Alike "shows" ["self", "row"] 3 (sp_al_shows K C_Alike) := ⟨_, _, ok_al_shows F_Alike_shows cl_Alike nE c_row_behind c_are_alike, ⟨am1, im1, km1⟩, b_Alike_shows⟩
  have c_Never_shows : CalM CX0 l.prog w K mg base C_Never "shows" ["self", "row"] 3 (sp_nv_shows C_Never) := ⟨_, _, ok_nv_shows F_Never_shows c_way_to_alike, ⟨am2, im2, km2⟩, b_Never_shows⟩
  have c_alike : Cal CX0 l.prog w K mg base "alike" ["row"] 3 (sp_alike C_Alike C_Never) := ⟨_, _, ok_alike F_alike g_FEW g_SMALL g_Alike g_Never cl_Never i_Never c_Alike_init c_check_row c_way_to_alike, PySem.W.mg_of X G a7, F_alike.kp, b_alike⟩
  have c_l_cell_at : Cal CX0 l.prog w K mg base "_law_cell_at" ["_law_script", "_law_k"] 1 (sp_cell_at K) := ⟨_, _, ok_cell_at F_l_cell_at B, PySem.W.mg_of X G a8, F_l_cell_at.kp, b_l_cell_at⟩
  have c_l_draw : Cal CX0 l.prog w K mg base "_law_draw" ["_law_cell", "_law_k", "_law_many"] 1 (sp_draw) := ⟨_, _, ok_draw F_l_draw, PySem.W.mg_of X G a9, F_l_draw.kp, b_l_draw⟩
  have c_l_value : Cal CX0 l.prog w K mg base "_law_value" ["_law_cell", "_law_turn"] 2 (sp_value) := ⟨_, _, ok_value F_l_value c_l_draw, PySem.W.mg_of X G a10, F_l_value.kp, b_l_value⟩
  have c_l_says : Cal CX0 l.prog w K mg base "_law_says" ["_law_said", "_law_due_here"] 1 (sp_says) := ⟨_, _, ok_says F_l_says B, PySem.W.mg_of X G a11, F_l_says.kp, b_l_says⟩
  have c_l_row : Cal CX0 l.prog w K mg base "_law_row" ["_law_script", "_law_by", "_law_most", "_law_greatest"] 3 (sp_row K) := ⟨_, _, ok_row F_l_row B c_l_cell_at c_l_value, PySem.W.mg_of X G a12, F_l_row.kp, b_l_row⟩
  have c_l_can : Cal CX0 l.prog w K mg base "_law_can" ["_law_row_here"] 1 (sp_can K) := ⟨_, _, ok_can F_l_can B, PySem.W.mg_of X G a13, F_l_can.kp, b_l_can⟩
  have c_l_evened : Cal CX0 l.prog w K mg base "_law_evened" ["_law_row_here", "_law_pair"] 1 (sp_l_evened K) := ⟨_, _, ok_l_evened F_l_evened B, PySem.W.mg_of X G a14, F_l_evened.kp, b_l_evened⟩
  have c_l_levels : Cal CX0 l.prog w K mg base "_law_levels" ["_law_row_here"] 2 (sp_levels K) := ⟨_, _, ok_levels F_l_levels B c_l_can c_l_evened, PySem.W.mg_of X G a15, F_l_levels.kp, b_l_levels⟩
  have c_l_walked : Cal CX0 l.prog w K mg base "_law_walked" ["_law_row_here", "_law_pairs"] 2 (sp_walked K) := ⟨_, _, ok_walked F_l_walked c_l_can c_l_evened, PySem.W.mg_of X G a16, F_l_walked.kp, b_l_walked⟩
  have c_l_fewest : Cal CX0 l.prog w K mg base "_law_fewest" ["_law_row_here"] 3 (sp_fewest K) := ⟨_, _, ok_fewest F_l_fewest B c_l_levels, PySem.W.mg_of X G a17, F_l_fewest.kp, b_l_fewest⟩
  have c_l_due : Cal CX0 l.prog w K mg base "_law_due" ["_law_row_here", "_law_found"] 4 (sp_due C_Alike C_Never) := ⟨_, _, ok_due F_l_due B g_Never cl_Alike cl_Never ⟨kit_mk ic_Alike it_Alike is_Alike is_Alike, kit_mk ic_Never it_Never sb2 is_Never, kit_mk ic_Answer it_Answer sb3 is_Answer, kit_mk ic_Alike it_Alike sb4 is_Alike, kit_mk ic_Never it_Never is_Never is_Never, kit_mk ic_Answer it_Answer sb6 is_Answer⟩ nE c_l_fewest c_l_walked, PySem.W.mg_of X G a18, F_l_due.kp, b_l_due⟩
  have c_l_right : Cal CX0 l.prog w K mg base "_law_right" ["_law_row_here", "_law_others"] 5 (sp_right) := ⟨_, _, ok_right F_l_right B g_Alike g_Never g_Answer cl_Alike cl_Never ⟨kit_mk ic_Alike it_Alike is_Alike is_Alike, kit_mk ic_Never it_Never sb2 is_Never, kit_mk ic_Answer it_Answer sb3 is_Answer, kit_mk ic_Alike it_Alike sb4 is_Alike, kit_mk ic_Never it_Never is_Never is_Never, kit_mk ic_Answer it_Answer sb6 is_Answer⟩ nE c_l_fewest c_alike c_l_due c_l_says c_Alike_shows c_Never_shows, PySem.W.mg_of X G a19, F_l_right.kp, b_l_right⟩
  exact ok_law F_law B g_Alike g_Never cl_Alike cl_Never ⟨kit_mk ic_Alike it_Alike is_Alike is_Alike, kit_mk ic_Never it_Never sb2 is_Never, kit_mk ic_Answer it_Answer sb3 is_Answer, kit_mk ic_Alike it_Alike sb4 is_Alike, kit_mk ic_Never it_Never is_Never is_Never, kit_mk ic_Answer it_Answer sb6 is_Answer⟩ nE c_alike c_l_right c_l_row c_l_value c_l_cell_at
end EG
open PySem PySem.W PyProof.Rows
set_option maxHeartbeats 0 in
theorem PySem.Challenge.cw_evenglasses_k02_whole_alike_holds : PySem.Challenge.rw_evenglasses_k02_whole_alike.Holds := by
  w_on; o_law; k_head; (case hw => w_witness2)
  k_fill
  refine L2.walk_ofB (l := PySem.Challenge.rw_evenglasses_k02_whole_alike) (n := 63) (k := 6) (x := "_law_script") (CX := fun _ => L2.CX0) (sp := fun w => EG.sp_law _) rfl (by decide) rfl ⟨rfl, by decide, by decide⟩ (fun w h Y => PySem.W.kIn_of Y) ?F (fun _ _ a ns hl hb _ hS => ⟨a, ns, rfl, hS, hl, hb, fun _ => rfl⟩) (fun _ _ _ _ _ h => h)
  case F =>
    intro w mg fa h KX G hmg
    refine' EG.all_mk KX G hmg ?a0 ?l0 ?c0 ?k0 ?a1 ?l1 ?c1 ?k1 ?a2 ?l2 ?c2 ?k2 ?a3 ?l3 ?c3 ?k3 ?a4 ?l4 ?c4 ?k4 ?a5 ?l5 ?c5 ?k5 ?a6 ?l6 ?c6 ?k6 ?a7 ?l7 ?c7 ?k7 ?a8 ?l8 ?c8 ?k8 ?a9 ?l9 ?c9 ?k9 ?a10 ?l10 ?c10 ?k10 ?a11 ?l11 ?c11 ?k11 ?a12 ?l12 ?c12 ?k12 ?a13 ?l13 ?c13 ?k13 ?a14 ?l14 ?c14 ?k14 ?a15 ?l15 ?c15 ?k15 ?a16 ?l16 ?c16 ?k16 ?a17 ?l17 ?c17 ?k17 ?a18 ?l18 ?c18 ?k18 ?a19 ?l19 ?c19 ?k19 ?a20 ?l20 ?c20 ?k20 ?m_FEW ?m_SMALL ?aC_Answer ?aC_Alike ?pg_Alike ?hd_Alike ?po_Alike ?sa_Alike ?mk_Alike ?kc_Alike ?ha_Alike ?hm_Alike ?aC_Never ?pg_Never ?hd_Never ?po_Never ?sa_Never ?mk_Never ?kc_Never ?ha_Never ?hm_Never ?hn0 ?ht0 ?am0 ?im0 ?lm0 ?cm0 ?km0 ?am1 ?im1 ?lm1 ?cm1 ?km1 ?am2 ?im2 ?lm2 ?cm2 ?km2 ?nE ?i_Never ?ic_Alike ?it_Alike ?is_Alike ?ic_Never ?it_Never ?is_Never ?ic_Answer ?it_Answer ?is_Answer ?sb2 ?sb3 ?sb4 ?sb6 ?z0 ?z1 ?z2 ?z3 ?z4 ?z5 ?z6 ?z7 ?z8 ?z9 ?z10 ?z11 ?z12 ?z13 ?z14
    (case a0 => k_is); (case l0 => k_is); (case c0 => k_is); (case k0 => k_is); (case a1 => k_is); (case l1 => k_is)
    (case c1 => k_is); (case k1 => k_is); (case a2 => k_is); (case l2 => k_is); (case c2 => k_is); (case k2 => k_is)
    (case a3 => k_is); (case l3 => k_is); (case c3 => k_is); (case k3 => k_is); (case a4 => k_is); (case l4 => k_is)
    (case c4 => k_is); (case k4 => k_is); (case a5 => k_is); (case l5 => k_is); (case c5 => k_is); (case k5 => k_is)
    (case a6 => k_is); (case l6 => k_is); (case c6 => k_is); (case k6 => k_is); (case a7 => k_is); (case l7 => k_is)
    (case c7 => k_is); (case k7 => k_is); (case a8 => k_is); (case l8 => k_is); (case c8 => k_is); (case k8 => k_is)
    (case a9 => k_is); (case l9 => k_is); (case c9 => k_is); (case k9 => k_is); (case a10 => k_is); (case l10 => k_is)
    (case c10 => k_is); (case k10 => k_is); (case a11 => k_is); (case l11 => k_is); (case c11 => k_is); (case k11 => k_is)
    (case a12 => k_is); (case l12 => k_is); (case c12 => k_is); (case k12 => k_is); (case a13 => k_is); (case l13 => k_is)
    (case c13 => k_is); (case k13 => k_is); (case a14 => k_is); (case l14 => k_is); (case c14 => k_is); (case k14 => k_is)
    (case a15 => k_is); (case l15 => k_is); (case c15 => k_is); (case k15 => k_is); (case a16 => k_is); (case l16 => k_is)
    (case c16 => k_is); (case k16 => k_is); (case a17 => k_is); (case l17 => k_is); (case c17 => k_is); (case k17 => k_is)
    (case a18 => k_is); (case l18 => k_is); (case c18 => k_is); (case k18 => k_is); (case a19 => k_is); (case l19 => k_is)
    (case c19 => k_is); (case k19 => k_is); (case a20 => k_is); (case l20 => k_is); (case c20 => k_is); (case k20 => k_is)
    (case m_FEW => k_is); (case m_SMALL => k_is); (case aC_Answer => k_is); (case aC_Alike => k_is); (case pg_Alike => k_is); (case hd_Alike => k_is)
    (case po_Alike => k_is); (case sa_Alike => k_is); (case mk_Alike => k_is); (case kc_Alike => k_is); (case ha_Alike => k_is); (case hm_Alike => k_is)
    (case aC_Never => k_is); (case pg_Never => k_is); (case hd_Never => k_is); (case po_Never => k_is); (case sa_Never => k_is); (case mk_Never => k_is)
    (case kc_Never => k_is); (case ha_Never => k_is); (case hm_Never => k_is); (case hn0 => k_is); (case ht0 => k_is); (case am0 => k_is)
    (case im0 => k_is); (case lm0 => k_is); (case cm0 => k_is); (case km0 => k_is); (case am1 => k_is); (case im1 => k_is)
    (case lm1 => k_is); (case cm1 => k_is); (case km1 => k_is); (case am2 => k_is); (case im2 => k_is); (case lm2 => k_is)
    (case cm2 => k_is); (case km2 => k_is); (case nE => k_is); (case i_Never => k_is); (case ic_Alike => k_is); (case it_Alike => k_is)
    (case is_Alike => k_is); (case ic_Never => k_is); (case it_Never => k_is); (case is_Never => k_is); (case ic_Answer => k_is); (case it_Answer => k_is)
    (case is_Answer => k_is); (case sb2 => k_is); (case sb3 => k_is); (case sb4 => k_is); (case sb6 => k_is); (case z0 => k_is)
    (case z1 => k_is); (case z2 => k_is); (case z3 => k_is); (case z4 => k_is); (case z5 => k_is); (case z6 => k_is)
    (case z7 => k_is); (case z8 => k_is); (case z9 => k_is); (case z10 => k_is); (case z11 => k_is); (case z12 => k_is)
    (case z13 => k_is); (case z14 => k_is)
