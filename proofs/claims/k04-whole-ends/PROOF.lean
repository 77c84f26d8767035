import PyProof.Rows.All
import Wide.All
import OpenK.AllK
import Wide.FinOn
import HandS.ForMost
import HandS.Exc
import HandS.TryOnly
import HandS.ExcOwn
import HandS.WordsExc
import HandS.Sort
import HandS.SortOrd
import HandS.SortRule
import HandS.Deep
import HandS.IsInst
import HandS.Style
import HandS.Wide
import HandS.TupLen
import HandS.EndBits
import KE.IntBitsLaws
import PyProof.Rows.SetFrom
import PyProof.Rows.RegSetDedup
import KE.SortData
import KE.KDictDisplayH
import PyProof.DictRoadsH
import HandS.CallRecv
import PySem.Challenge.RW_evenglasses_k04_whole_ends
set_option Elab.async false
set_option maxRecDepth 100000
set_option maxHeartbeats 4000000
/-! Rows, their evenings, the row behind one: plain Lean. -/
namespace EG
abbrev Pr := Int × Int
def goodP (ns : List Int) (i j : Nat) : Bool := !decide (ns.getD i 0 = ns.getD j 0) && decide ((ns.getD i 0 + ns.getD j 0) % 2 = 0)
/-- the pairs (i, j), j the first k places behind i -/
def evI (ns : List Int) (i k : Nat) : List Pr := ((List.range' (i + 1) k).filter (goodP ns i)).map fun (j : Nat) => ((i : Int), (j : Int))
def evN (ns : List Int) (m : Nat) : List Pr := (List.range m).flatMap fun i => evI ns i (ns.length - (i + 1))
def evs (ns : List Int) : List Pr := evN ns ns.length
/-- the same by the greater place -/
def cnO (ns : List Int) (j k : Nat) : List Pr := ((List.range k).filter fun i => goodP ns i j).map fun (i : Nat) => ((i : Int), (j : Int))
def cnN (ns : List Int) (m : Nat) : List Pr := (List.range m).flatMap fun j => cnO ns j j

theorem evI_succ (ns : List Int) (i k : Nat) : evI ns i (k + 1) = evI ns i k ++ if goodP ns i (i + 1 + k) = true then [((i : Int), ((i + 1 + k : Nat) : Int))] else [] := by
  unfold evI
  rw [List.range'_concat, List.filter_append, List.map_append]
  by_cases h : goodP ns i (i + 1 + 1 * k) = true
  · rw [show i + 1 + k = i + 1 + 1 * k by omega, if_pos h, List.filter_cons_of_pos h]; rfl
  · rw [show i + 1 + k = i + 1 + 1 * k by omega, if_neg h, List.filter_cons_of_neg h]; rfl
theorem evN_succ (ns : List Int) (m : Nat) : evN ns (m + 1) = evN ns m ++ evI ns m (ns.length - (m + 1)) := by
  unfold evN
  rw [List.range_succ, List.flatMap_append, List.flatMap_singleton]
theorem cnO_succ (ns : List Int) (j k : Nat) : cnO ns j (k + 1) = cnO ns j k ++ if goodP ns k j = true then [((k : Int), (j : Int))] else [] := by
  unfold cnO
  rw [List.range_succ, List.filter_append, List.map_append]
  by_cases h : goodP ns k j = true
  · rw [if_pos h, List.filter_cons_of_pos (p := fun i => goodP ns i j) h]; rfl
  · rw [if_neg h, List.filter_cons_of_neg (p := fun i => goodP ns i j) h]; rfl
theorem cnN_succ (ns : List Int) (m : Nat) : cnN ns (m + 1) = cnN ns m ++ cnO ns m m := by
  unfold cnN
  rw [List.range_succ, List.flatMap_append, List.flatMap_singleton]

/-- an evening that can be -/
def IsEv (ns : List Int) (p : Pr) : Prop := ∃ i j : Nat, p = ((i : Int), (j : Int)) ∧ i < j ∧ j < ns.length ∧ goodP ns i j = true
theorem mem_evs {ns : List Int} {p : Pr} : p ∈ evs ns ↔ IsEv ns p := by
  unfold evs evN evI IsEv
  simp only [List.mem_flatMap, List.mem_range, List.mem_map, List.mem_filter, List.mem_range'_1]
  constructor
  · rintro ⟨i, hi, j, ⟨⟨h1, h2⟩, hg⟩, rfl⟩
    exact ⟨i, j, rfl, by omega, by omega, hg⟩
  · rintro ⟨i, j, rfl, h1, h2, hg⟩
    exact ⟨i, by omega, j, ⟨⟨by omega, by omega⟩, hg⟩, rfl⟩
theorem mem_cn {ns : List Int} {p : Pr} : p ∈ cnN ns ns.length ↔ IsEv ns p := by
  unfold cnN cnO IsEv
  simp only [List.mem_flatMap, List.mem_range, List.mem_map, List.mem_filter]
  constructor
  · rintro ⟨j, hj, i, ⟨h1, hg⟩, rfl⟩
    exact ⟨i, j, rfl, h1, hj, hg⟩
  · rintro ⟨i, j, rfl, h1, h2, hg⟩
    exact ⟨j, h2, i, ⟨h1, hg⟩, rfl⟩
/-- the order of pairs -/
def ltPr (p q : Pr) : Prop := p.1 < q.1 ∨ (p.1 = q.1 ∧ p.2 < q.2)
theorem evI_sorted (ns : List Int) (i k : Nat) : (evI ns i k).Pairwise ltPr := by
  unfold evI
  rw [List.pairwise_map]
  refine List.Pairwise.filter _ ?_
  refine (List.pairwise_lt_range' (s := i + 1) (n := k)).imp ?_
  intro a b h
  exact .inr ⟨rfl, by show (a : Int) < (b : Int); omega⟩
theorem mem_evI {ns : List Int} {i k : Nat} {p : Pr} (h : p ∈ evI ns i k) : p.1 = (i : Int) := by
  unfold evI at h
  obtain ⟨j, _, rfl⟩ := List.mem_map.mp h
  rfl
theorem evN_sorted (ns : List Int) : ∀ m, (evN ns m).Pairwise ltPr
  | 0 => List.Pairwise.nil
  | m + 1 => by
    rw [evN_succ, List.pairwise_append]
    refine ⟨evN_sorted ns m, evI_sorted _ _ _, fun p hp q hq => ?_⟩
    unfold evN at hp
    obtain ⟨i, hi, hp⟩ := List.mem_flatMap.mp hp
    have h1 := mem_evI hp
    have h2 := mem_evI hq
    have h3 := List.mem_range.mp hi
    exact .inl (by rw [h1, h2]; omega)
theorem evs_sorted (ns : List Int) : (evs ns).Pairwise ltPr := evN_sorted ns _
theorem ltPr_irrefl (p : Pr) : ¬ ltPr p p := by rintro (h | h) <;> omega
theorem evs_nodup (ns : List Int) : (evs ns).Nodup := List.Pairwise.imp (R := ltPr) (fun {a b} h (e : a = b) => ltPr_irrefl a (by rw [← e] at h; exact h)) (evs_sorted ns)
theorem cnN_nodup (ns : List Int) : ∀ m, (cnN ns m).Nodup
  | 0 => List.nodup_nil
  | m + 1 => by
    rw [cnN_succ, List.nodup_append]
    refine ⟨cnN_nodup ns m, ?_, fun p hp q hq e => ?_⟩
    · unfold cnO
      refine List.Pairwise.map _ ?_ (List.Pairwise.filter _ List.nodup_range)
      intro a b h e
      exact h (by have := (Prod.mk.inj e).1; omega)
    · unfold cnN at hp
      obtain ⟨j, hj, hp⟩ := List.mem_flatMap.mp hp
      unfold cnO at hp hq
      obtain ⟨a, _, rfl⟩ := List.mem_map.mp hp
      obtain ⟨b, _, rfl⟩ := List.mem_map.mp hq
      have := List.mem_range.mp hj
      have := (Prod.mk.inj e).2
      omega
theorem cn_perm (ns : List Int) : (cnN ns ns.length).Perm (evs ns) :=
  (List.perm_ext_iff_of_nodup (cnN_nodup ns _) (evs_nodup ns)).mpr fun p => by rw [mem_cn, mem_evs]
/-- a sorted rearrangement of the evenings is their list -/
theorem evs_uniq {ns : List Int} {l : List Pr} (hp : l.Perm (cnN ns ns.length)) (hs : l.Pairwise fun p q => ¬ ltPr q p) : l = evs ns := by
  refine List.Perm.eq_of_pairwise (le := fun p q => ¬ ltPr q p) ?_ hs ?_ (hp.trans (cn_perm ns))
  · intro a b _ _ h1 h2
    unfold ltPr at h1 h2
    have e1 : a.1 = b.1 := by omega
    have e2 : a.2 = b.2 := by omega
    exact Prod.ext e1 e2
  · exact (evs_sorted ns).imp fun {a b} h h' => by
      unfold ltPr at h h'
      omega

/-- the row behind the evening of the places i, j -/
def half (ns : List Int) (i j : Nat) : Int := (ns.getD i 0 + ns.getD j 0) / 2
def beh (ns : List Int) (i j : Nat) : List Int := (List.range ns.length).map fun k => if k = i ∨ k = j then half ns i j else ns.getD k 0
theorem beh_length (ns : List Int) (i j : Nat) : (beh ns i j).length = ns.length := by unfold beh; rw [List.length_map, List.length_range]
theorem beh_get (ns : List Int) (i j k : Nat) (h : k < ns.length) : (beh ns i j)[k]? = some (if k = i ∨ k = j then half ns i j else ns.getD k 0) := by
  unfold beh
  rw [List.getElem?_map, List.getElem?_range h]; rfl
theorem beh_set (ns : List Int) (i j : Nat) : (ns.set i (half ns i j)).set j (half ns i j) = beh ns i j := by
  apply List.ext_getElem?
  intro k
  by_cases h : k < ns.length
  · rw [beh_get ns i j k h, List.getElem?_set, List.getElem?_set]
    have e : ns[k]? = some (ns.getD k 0) := by rw [List.getElem?_eq_getElem h, List.getD_eq_getElem?_getD, List.getElem?_eq_getElem h]; rfl
    rw [e]
    simp only [List.length_set, h]
    by_cases h1 : j = k
    · subst h1; simp [h]
    · by_cases h2 : i = k
      · subst h2
        simp [h1, h]
      · have h3 : ¬ k = i := fun z => h2 z.symm
        have h4 : ¬ k = j := fun z => h1 z.symm
        simp [h1, h2, h3, h4]
  · rw [List.getElem?_eq_none (by rw [List.length_set, List.length_set]; omega), List.getElem?_eq_none (by rw [beh_length]; omega)]
end EG

/-! The text by places: law_k04_whole_ends. -/
namespace EG
open PySem L2
def topS (i : Nat) : Stmt := PySem.Challenge.pw_evenglasses_k04_whole_ends.main.body.getD i (.Pass ⟨0, 0, 0, 0⟩)
abbrev s_GlassError : Stmt := topS 1
abbrev s_BadRow : Stmt := topS 2
abbrev s_is_whole : Stmt := topS 4
theorem sc_is_whole : FnScope ["thing"] ["thing"] (defScope s_is_whole) := ⟨rfl, rfl, rfl, by decide +kernel, rfl, by decide +kernel, by decide +kernel⟩
abbrev s_check_row : Stmt := topS 5
theorem sc_check_row : FnScope ["row", "most", "greatest", "one"] ["row", "most", "greatest"] (defScope s_check_row) := ⟨rfl, rfl, rfl, by decide +kernel, rfl, by decide +kernel, by decide +kernel⟩
abbrev s_evenings_of : Stmt := topS 6
theorem sc_evenings_of : FnScope ["row", "found", "one", "other"] ["row"] (defScope s_evenings_of) := ⟨rfl, rfl, rfl, by decide +kernel, rfl, by decide +kernel, by decide +kernel⟩
abbrev s_behind : Stmt := topS 7
theorem sc_behind : FnScope ["row", "evening", "one", "other", "half", "place", "number"] ["row", "evening"] (defScope s_behind) := ⟨rfl, rfl, rfl, by decide +kernel, rfl, by decide +kernel, by decide +kernel⟩
abbrev s_bounds_of : Stmt := topS 11
theorem sc_bounds_of : FnScope ["row", "known", "spot", "some", "evening", "low", "high"] ["row", "known"] (defScope s_bounds_of) := ⟨rfl, rfl, rfl, by decide +kernel, rfl, by decide +kernel, by decide +kernel⟩
abbrev s_fewest_most : Stmt := topS 12
theorem sc_fewest_most : FnScope ["row"] ["row"] (defScope s_fewest_most) := ⟨rfl, rfl, rfl, by decide +kernel, rfl, by decide +kernel, by decide +kernel⟩
abbrev s_ends : Stmt := topS 13
theorem sc_ends : FnScope ["row", "found", "waiting", "met", "here", "some", "evening", "there"] ["row"] (defScope s_ends) := ⟨rfl, rfl, rfl, by decide +kernel, rfl, by decide +kernel, by decide +kernel⟩
abbrev s_l_cell_at : Stmt := topS 15
theorem sc_l_cell_at : FnScope ["_law_script", "_law_k"] ["_law_script", "_law_k"] (defScope s_l_cell_at) := ⟨rfl, rfl, rfl, by decide +kernel, rfl, by decide +kernel, by decide +kernel⟩
abbrev s_l_draw : Stmt := topS 16
theorem sc_l_draw : FnScope ["_law_cell", "_law_k", "_law_many", "_law_primes"] ["_law_cell", "_law_k", "_law_many"] (defScope s_l_draw) := ⟨rfl, rfl, rfl, by decide +kernel, rfl, by decide +kernel, by decide +kernel⟩
abbrev s_l_value : Stmt := topS 17
theorem sc_l_value : FnScope ["_law_cell", "_law_turn", "_law_mixed"] ["_law_cell", "_law_turn"] (defScope s_l_value) := ⟨rfl, rfl, rfl, by decide +kernel, rfl, by decide +kernel, by decide +kernel⟩
abbrev s_l_whole : Stmt := topS 18
theorem sc_l_whole : FnScope ["_law_number"] ["_law_number"] (defScope s_l_whole) := ⟨rfl, rfl, rfl, by decide +kernel, rfl, by decide +kernel, by decide +kernel⟩
abbrev s_l_row : Stmt := topS 19
theorem sc_l_row : FnScope ["_law_script", "_law_by", "_law_most", "_law_greatest", "_law_cell", "_law_wide", "_law_step", "_law_found", "_law_at", "_law_number"] ["_law_script", "_law_by", "_law_most", "_law_greatest"] (defScope s_l_row) := ⟨rfl, rfl, rfl, by decide +kernel, rfl, by decide +kernel, by decide +kernel⟩
abbrev s_l_can : Stmt := topS 20
theorem sc_l_can : FnScope ["_law_row_here", "_law_found", "_law_other", "_law_one"] ["_law_row_here"] (defScope s_l_can) := ⟨rfl, rfl, rfl, by decide +kernel, rfl, by decide +kernel, by decide +kernel⟩
abbrev s_l_evened : Stmt := topS 21
theorem sc_l_evened : FnScope ["_law_row_here", "_law_pair", "_law_found"] ["_law_row_here", "_law_pair"] (defScope s_l_evened) := ⟨rfl, rfl, rfl, by decide +kernel, rfl, by decide +kernel, by decide +kernel⟩
abbrev s_l_levels : Stmt := topS 22
theorem sc_l_levels : FnScope ["_law_row_here", "_law_levels_here", "_law_line", "_law_more", "_law_some", "_law_pair"] ["_law_row_here"] (defScope s_l_levels) := ⟨rfl, rfl, rfl, by decide +kernel, rfl, by decide +kernel, by decide +kernel⟩
abbrev s_law : Stmt := topS 23
theorem sc_law : FnScope ["_law_script", "_law_by", "_law_five", "_law_row_here", "_law_handed", "_law_last", "_law_counts", "_law_many", "_law_line", "_law_some", "_law_due", "_law_again", "_law_found", "_law_bounds", "_law_one"] ["_law_script"] (defScope s_law) := ⟨rfl, rfl, rfl, by decide +kernel, rfl, by decide +kernel, by decide +kernel⟩
end EG

/-! Rules of my own over the hand layer, and words about heaps. -/
namespace EG
open PySem PySem.Spec PyProof.Rows L2
section
variable {X : Cx}
/-- a product of ints of any size that the model bears -/
theorem op_mulB : OpR X (binaryOp .Mult) (rI IntMulOk fun i j => .int (i * j)) :=
  opI fun _ _ _ _ _ _ _ hc q => PyProof.Rows.mul_int q hc

/-- readings of len, list, tuple by K -/
abbrev rLenS (K : PySem.W.Frag) : List V → Hp → VK → Prop := fun xs H Q => ∃ p ys, xs = [.ref p] ∧ (SqL K H p ys ∨ SqT K H p ys) ∧ Q (.int ys.length) H
abbrev rListOf (K : PySem.W.Frag) : List V → Hp → VK → Prop := fun xs H Q => ∃ p ys, xs = [.ref p] ∧ (SqL K H p ys ∨ SqT K H p ys) ∧ ∀ l, H l = none → Q (.ref l) (upd H l (.lst ys))
abbrev rTupOf (K : PySem.W.Frag) : List V → Hp → VK → Prop := fun xs H Q => ∃ p ys, xs = [.ref p] ∧ ((SqL K H p ys ∧ ∀ l, H l = none → Q (.ref l) (upd H l (.tup ys))) ∨ (SqT K H p ys ∧ Q (.ref p) H))
/-! ### xs[::k]: some of its items -/
theorem vals_pick {xs : List V} {its : List Value} (r : Vals xs its) : ∀ idx : List Nat, Vals (idx.filterMap (xs[·]?)) (idx.filterMap (its.toArray[·]?))
  | [] => .nil
  | i :: idx => by
    have ih := vals_pick r idx
    cases e : xs[i]? with
    | none =>
      have e2 := r.none_of e
      rw [List.filterMap_cons_none e, List.filterMap_cons_none (by simpa using e2)]
      exact ih
    | some x =>
      obtain ⟨u, e2, ru⟩ := r.get e
      rw [List.filterMap_cons_some e, List.filterMap_cons_some (by simpa using e2)]
      exact .cons ru ih
def tStep (K : PySem.W.Frag) (te : TE) (ts : TO) : TE := fun σ H Q => te σ H fun x H1 => ts σ H1 fun o H2 =>
  ∃ (a : Addr) (xs : List V) (k : Int), x = .ref a ∧ o = some k ∧ k ≠ 0 ∧ SqL K H2 a xs ∧
    ∀ (p : Addr) (ys : List V), (∀ z ∈ ys, z ∈ xs) → ys.length ≤ xs.length → H2 p = none → Q (.ref p) (upd H2 p (.lst ys))
theorem pe_step {e st : Expr} {te : TE} {ts : TO} {p3 pos : Pos} (he : PE X e te) (hst : PO X (some st) ts) :
    PE X (.Subscript e (.Slice none none (some st) p3) pos) (tStep X.K te ts) := by
  refine ⟨fun pins s σ H Q I h => ?_⟩
  refine PyProof.Rows.Subscript_ (thn (he.run pins s σ H _ I h) fun v sA ⟨x, HA, IA, rA, qA⟩ => ?_)
  refine wpAny_Slice (thn (po_none.run pins sA σ HA (fun o Ho => o = none ∧ Ho = HA) IA ⟨rfl, rfl⟩) fun vl sB ⟨l, HB, IB, pl, el, eB⟩ => ?_)
  subst el eB
  refine thn (po_none.run pins sB σ HB (fun o Ho => o = none ∧ Ho = HB) IB ⟨rfl, rfl⟩) fun vu sC ⟨u, HC, IC, pu, eu, eC⟩ => ?_
  subst eu eC
  refine thn (hst.run pins sC σ HC _ IC qA) fun vs sD ⟨o, HD, ID, ps, qD⟩ => ?_
  obtain ⟨a, xs, k, ex, eo, k0, hx, q⟩ := qD
  subst ex eo
  cases rA
  have IE : Inv X pins σ HD { sD with heap := sD.heap.push { cls := .type "slice", data := .fields #[vl, vu, vs] } } := ID.kept (t' := sD.toks) fun b ob z => Heap.get?_push_of_some _ z
  obtain ⟨its, r, ht, hz⟩ := IE.list hx
  have hlen := r.length
  show wpAny (model X.prog X.w) X.A (subscriptTail e (.Slice none none (some st) p3) (.ref a) (.ref sD.heap.objs.size)) (EP X pins σ Q) X.xe { sD with heap := sD.heap.push { cls := .type "slice", data := .fields #[vl, vu, vs] } }
  refine tail_any (ops := [.ref a, .ref sD.heap.objs.size]) ht.isList.typeIs (PySem.slot_list_getitem.lookup) ?_ (by with_unfolding_all rfl)
  refine wpAny_getItem_list_slice ht.isList (Heap.IsSliceOf.new _ vl vu vs) pl pu ps (fun z => k0 (Option.some.inj z)) ?_ (by rw [List.size_toArray]; omega)
  have lenL := slicePick_size_le its.toArray none none (some k)
  obtain ⟨idx, ei⟩ : ∃ idx : List Nat, slicePick its.toArray none none (some k) = (idx.filterMap (its.toArray[·]?)).toArray := ⟨_, rfl⟩
  rw [ei] at lenL ⊢
  have rp := vals_pick r idx
  have lp := rp.length
  rw [List.size_toArray, List.size_toArray, ← lp, ← hlen] at lenL
  refine ⟨.ref _, _, IE.laid (t' := sD.toks) (o := .lst (idx.filterMap (xs[·]?))) (fun b ob z => Heap.get?_push_of_some _ z) (Nat.le_refl _) ?_, rfl, q _ _ (fun z hzm => ?_) lenL (IE.hok.fresh (Nat.le_refl _))⟩
  · exact ⟨by omega, _, 0, rp, Heap.get?_push_size _ rfl⟩
  · obtain ⟨i, _, e⟩ := List.mem_filterMap.mp hzm
    exact List.mem_of_getElem? e

/-! ### len(set(xs)), xs a list of ints -/
def dcount (ns : List Int) : Nat := (PyProof.Rows.firstMet (fun i => ns.getD i 0) ns.length).length
def tLenSetG (K : PySem.W.Frag) (ta : TE) : TE := fun σ H Q => ta σ H fun x H1 =>
  ∃ (l : Addr) (ns : List Int), x = .ref l ∧ SqL K H1 l (ns.map V.int) ∧ ns.length ≤ 4000 ∧ Q (.int (dcount ns : Nat)) H1
theorem pe_lenSetG {a : Expr} {ta : TE} {p p2 q pos : Pos} (hg : Gl X "len") (hm : X.mg "len" = none) (hg2 : Gl X "set") (hm2 : X.mg "set" = none) (ha : PE X a ta) (hc : X.calm = true := by rfl)
    (na : starEach [a] X.env = (false, eval a X.env) :: starEach [] X.env := by rfl) :
    PE X (.Call (.Name "len" p) [.Call (.Name "set" p2) [a] [] q] [] pos) (tLenSetG X.K ta) := by
  refine ⟨fun pins s σ H Q I h => ?_⟩
  refine PyProof.Rows.Call_ (ld_blt I hg hm boot_len (PyProof.Rows.callWith_builtin1 (PyProof.Rows.args_cons ?_ rfl) rfl rfl))
  refine PyProof.Rows.Call_ (ld_blt I hg2 hm2 PyProof.Rows.boot_set (PyProof.Rows.callWith_type1 ?_ na rfl))
  refine PyProof.Rows.args_cons (thn (ha.run pins s σ H _ I h) fun v sA ⟨x, HA, IA, rA, qA⟩ => PyProof.Rows.args_nil ?_) na
  obtain ⟨l, ns, rfl, hq, hl, qA⟩ := qA
  cases rA
  obtain ⟨its, r, pl, hz⟩ := IA.list hq
  have hlen : its.toArray.size = ns.length := by rw [List.size_toArray, ← r.length, List.length_map]
  refine call_set_list (IA.ok.hd hc) pl.isList (by simpa using intsAre_of r) (by rw [hlen]; unfold scanBound; omega) fun hB tk hS hk => ?_
  refine PyProof.Rows.args_nil ?_
  rw [hlen] at hS
  have dle : dcount ns ≤ ns.length := PyProof.Rows.firstMet_length_le _ _
  obtain ⟨o, es, ep, t, ho, hex, hd, _, _, _, hf, hn⟩ := hS
  have IB : Inv X pins σ HA { sA with heap := hB, toks := tk } := IA.kept fun b o e => hk b o (Heap.lt_size e) e
  have hn2 : es.size = dcount ns := hn
  exact call_len_set ho hex hd hf (by rw [hn2]; omega) ⟨.int (dcount ns : Nat), HA, IB.tok _, ⟨_, by rw [hn2]⟩, qA⟩
end

/-! ### a def of the text that keeps a promise, as its callers use it -/
def Cal (CX : CXT) (P : Program) (w : World) (K : PySem.W.Frag) (mg : Str → Option Value) (base : Heap) (x : Str) (ps : List Str) (k : Nat) (sp : Sp) : Prop :=
  ∃ (f : Addr) (fd : FuncData), FnOk P w K mg base CX k f fd ps sp ∧ mg x = some (.ref f) ∧ PySem.W.keepIn K (.ref f) = true ∧ Binds K fd ps []
section
variable {X : Cx} {x : Str} {ps : List Str} {j k : Nat} {sp : Sp} {e : Expr} {es : List Expr} {t : TA} {p pos : Pos}
theorem pe_calX {CX : CXT} {E : XK} (c : Cal CX X.prog X.w X.K X.mg X.base x ps j sp) (hr : Room k X.A) (hx : Passes CX X E) (hg : Gl X x) (ha : PA X (e :: es) t) (hj : j ≤ k := by decide) (hdb : (x == ("__debug__" : Str)) = false := by decide)
    (he : starEach (e :: es) X.env = (false, eval e X.env) :: starEach es X.env := by rfl) (hpl : (backTo pos (starEach es X.env)).any (·.1) = false := by rfl) :
    PE X (.Call (.Name x p) (e :: es) [] pos) (tCall sp [] E t) := by
  obtain ⟨f, fd, F, gf, kf, bf⟩ := c
  exact pe_call F (hr.mono hj) hg gf kf bf .nil hx ha hdb he hpl
theorem pe_cal (c : Cal CX0 X.prog X.w X.K X.mg X.base x ps j sp) (hr : Room k X.A) (hg : Gl X x) (ha : PA X (e :: es) t) (hj : j ≤ k := by decide) (hdb : (x == ("__debug__" : Str)) = false := by decide)
    (he : starEach (e :: es) X.env = (false, eval e X.env) :: starEach es X.env := by rfl) (hpl : (backTo pos (starEach es X.env)).any (·.1) = false := by rfl) :
    PE X (.Call (.Name x p) (e :: es) [] pos) (tCall sp [] E0 t) := pe_calX c hr pass0 hg ha hj hdb he hpl
end

/-! ### pairs of ints -/
def IsP (H : Hp) (v : V) (p : Pr) : Prop := ∃ t, v = .ref t ∧ H t = some (.tup [.int p.1, .int p.2])
abbrev Prs (H : Hp) : List V → List Pr → Prop := Paired (IsP H)
/-- the tuples stand as before -/
def TupS (H H' : Hp) : Prop := ∀ b xs, H b = some (.tup xs) → H' b = some (.tup xs)
theorem TupS.refl (H : Hp) : TupS H H := fun _ _ h => h
theorem TupS.trans {H H1 H2 : Hp} (a : TupS H H1) (b : TupS H1 H2) : TupS H H2 := fun c xs h => b c xs (a c xs h)
theorem Same.tups {H H' : Hp} (s : Same H H') : TupS H H' := fun b xs h => s b _ h
theorem same_new {H : Hp} {p : Addr} {o : HO} (h : H p = none) : Same H (upd H p o) := fun b x e => by
  rw [upd_ne (ne_of_none e h)]; exact e
theorem tups_lst {H : Hp} {p : Addr} {xs : List V} {o : HO} (h : H p = some (.lst xs)) : TupS H (upd H p o) := fun b ys e => by
  rw [upd_ne (ne_of e h (by intro z; cases z))]; exact e
theorem IsP.mono {H H' : Hp} (s : TupS H H') {v : V} {p : Pr} (h : IsP H v p) : IsP H' v p := by
  obtain ⟨t, e, h⟩ := h
  exact ⟨t, e, s t _ h⟩
theorem Prs.mono {H H' : Hp} (s : TupS H H') {vs : List V} {ps : List Pr} (h : Prs H vs ps) : Prs H' vs ps := Paired.mapP h fun _ _ q => q.mono s
theorem Prs.length {H : Hp} {vs : List V} {ps : List Pr} (h : Prs H vs ps) : vs.length = ps.length := Paired.length h
theorem prs_app {H : Hp} : ∀ {vs ws : List V} {ps qs : List Pr}, Prs H vs ps → Prs H ws qs → Prs H (vs ++ ws) (ps ++ qs)
  | _, _, _, _, .nil, h => h
  | _, _, _, _, .cons r t, h => .cons r (prs_app t h)
theorem prs_at {H : Hp} : ∀ {vs : List V} {ps : List Pr} {i : Nat} {v : V}, Prs H vs ps → vs[i]? = some v → ∃ p, ps[i]? = some p ∧ IsP H v p
  | _, _, _, _, .nil, e => by simp at e
  | _, _, 0, _, .cons r _, e => by simp at e; subst e; exact ⟨_, rfl, r⟩
  | _, _, i + 1, v, .cons _ t, e => by
    obtain ⟨p, h1, h2⟩ := prs_at (i := i) (v := v) t (by simpa using e)
    exact ⟨p, by simpa using h1, h2⟩
theorem prs_mem {H : Hp} {vs : List V} {ps : List Pr} {v : V} (h : Prs H vs ps) (hv : v ∈ vs) : ∃ p, p ∈ ps ∧ IsP H v p := by
  obtain ⟨i, e⟩ := List.mem_iff_getElem?.mp hv
  obtain ⟨p, h1, h2⟩ := prs_at h e
  exact ⟨p, List.mem_of_getElem? h1, h2⟩

/-! ### as data -/
def prD (p : Pr) : PyData := .tuple [.int p.1, .int p.2]
def prsD (ps : List Pr) : PyData := .list (ps.map prD)
def rowD (ns : List Int) : PyData := .list (ns.map PyData.int)
section
variable {K : PySem.W.Frag} {H : Hp}
theorem dp_pr {v : V} {p : Pr} (h : IsP H v p) : Dp K H v (prD p) := by
  obtain ⟨t, rfl, h⟩ := h
  exact .tup (SqT.of h) (.cons (.int _) (.cons (.int _) .nil))
theorem dp_prT {a : Addr} {p : Pr} (h : SqT K H a [.int p.1, .int p.2]) : Dp K H (.ref a) (prD p) := .tup h (.cons (.int _) (.cons (.int _) .nil))
theorem dpa_prs : ∀ {vs : List V} {ps : List Pr}, Prs H vs ps → DpAll K H vs (ps.map prD)
  | _, _, .nil => .nil
  | _, _, .cons r t => .cons (dp_pr r) (dpa_prs t)
theorem dp_prs {a : Addr} {vs : List V} {ps : List Pr} (h : SqL K H a vs) (r : Prs H vs ps) : Dp K H (.ref a) (prsD ps) := .lst h (dpa_prs r)
theorem dpa_ints : ∀ ns : List Int, DpAll K H (ns.map V.int) (ns.map PyData.int)
  | [] => .nil
  | n :: ns => .cons (.int n) (dpa_ints ns)
theorem dp_row {a : Addr} {ns : List Int} (h : SqL K H a (ns.map V.int)) : Dp K H (.ref a) (rowD ns) := .lst h (dpa_ints ns)
end
theorem eqv_pr (p q : Pr) : PyData.eqv (prD p) (prD q) = decide (p = q) := by
  obtain ⟨a, b⟩ := p
  obtain ⟨c, d⟩ := q
  simp only [prD, PyData.eqv, PyData.eqvAll, Prod.mk.injEq, Bool.and_true]
  rw [Bool.decide_and]
  rfl
theorem eqv_prs : ∀ ps qs : List Pr, PyData.eqv (prsD ps) (prsD qs) = decide (ps = qs)
  | [], [] => by simp [prsD, PyData.eqv, PyData.eqvAll]
  | [], _ :: _ => by simp [prsD, PyData.eqv, PyData.eqvAll]
  | _ :: _, [] => by simp [prsD, PyData.eqv, PyData.eqvAll]
  | p :: ps, q :: qs => by
    have ih := eqv_prs ps qs
    simp only [prsD, PyData.eqv] at ih
    simp only [prsD, PyData.eqv, PyData.eqvAll, List.map_cons, eqv_pr, ih, List.cons.injEq]
    rw [Bool.decide_and]
theorem eqv_row : ∀ ns ms : List Int, PyData.eqv (rowD ns) (rowD ms) = decide (ns = ms)
  | [], [] => by simp [rowD, PyData.eqv, PyData.eqvAll]
  | [], _ :: _ => by simp [rowD, PyData.eqv, PyData.eqvAll]
  | _ :: _, [] => by simp [rowD, PyData.eqv, PyData.eqvAll]
  | n :: ns, m :: ms => by
    have ih := eqv_row ns ms
    simp only [rowD, PyData.eqv] at ih
    simp only [rowD, PyData.eqv, PyData.eqvAll, List.map_cons, ih, List.cons.injEq]
    rw [Bool.decide_and]
    rfl
theorem depth_pr (p : Pr) : (prD p).depth = 1 := by simp [prD, PyData.depth, PyData.depthAll]
theorem lay_prs : ∀ ps : List Pr, PyData.canLayAll0 (ps.map prD) = true ∧ PyData.depthAll (ps.map prD) ≤ 1
  | [] => by simp [PyData.canLayAll0, PyData.depthAll]
  | p :: ps => by
    have ih := lay_prs ps
    have h := depth_pr p
    refine ⟨by simp [PyData.canLayAll0, ih.1, prD, PyData.canLay0], ?_⟩
    simp only [List.map_cons, PyData.depthAll]
    omega
theorem lay_ints : ∀ ns : List Int, PyData.canLayAll0 (ns.map PyData.int) = true ∧ PyData.depthAll (ns.map PyData.int) = 0
  | [] => by simp [PyData.canLayAll0, PyData.depthAll]
  | n :: ns => by
    have ih := lay_ints ns
    refine ⟨by simp [PyData.canLayAll0, ih.1, PyData.canLay0], ?_⟩
    simp only [List.map_cons, PyData.depthAll, PyData.depth, ih.2]
    decide
theorem shaped_pr (p : Pr) : SeqAt.shaped (prD p) = true := by
  unfold SeqAt.shaped
  rw [depth_pr, Bool.and_eq_true]
  exact ⟨by simp [prD, PyData.canLay0, PyData.canLayAll0], by decide⟩
theorem shaped_prs (ps : List Pr) : SeqAt.shaped (prsD ps) = true := by
  have h := lay_prs ps
  unfold SeqAt.shaped
  rw [Bool.and_eq_true]
  refine ⟨by simp only [prsD, PyData.canLay0]; exact h.1, decide_eq_true ?_⟩
  simp only [prsD, PyData.depth]
  omega
theorem shaped_row (ns : List Int) : SeqAt.shaped (rowD ns) = true := by
  have h := lay_ints ns
  unfold SeqAt.shaped
  rw [Bool.and_eq_true]
  refine ⟨by simp only [rowD, PyData.canLay0]; exact h.1, decide_eq_true ?_⟩
  simp only [rowD, PyData.depth]
  omega
theorem any_prs (p : Pr) (ps : List Pr) : ((ps.map prD).any fun z => PyData.eqv z (prD p)) = decide (p ∈ ps) := by
  induction ps with
  | nil => simp
  | cons q ps ih =>
    rw [List.map_cons, List.any_cons, ih, eqv_pr]
    by_cases h : q = p
    · subst h; simp
    · have h2 : ¬ p = q := fun z => h z.symm
      simp [h, h2]
end EG

/-! The program's own functions: what each answers. -/
namespace EG
open PySem L2
theorem itP {c A B : Prop} [Decidable c] (h : c) (x : A) : if c then A else B := by rw [if_pos h]; exact x
theorem itN {c A B : Prop} [Decidable c] (h : ¬ c) (x : B) : if c then A else B := by rw [if_neg h]; exact x
theorem room65 {k : Nat} {A : Around} (r : Room k A) : A.units + 65 < cLine := by have := r.un; omega
theorem dec_int (a b : Int) : decide (V.int a = V.int b) = decide (a = b) := by
  by_cases h : a = b
  · subst h; simp
  · have h2 : ¬ V.int a = V.int b := fun z => h (V.int.inj z)
    rw [decide_eq_false h, decide_eq_false h2]
/-- a list of ints that may be changed -/
def Lst (H : Hp) (a : Addr) (ns : List Int) : Prop := H a = some (.lst (ns.map V.int))
theorem Lst.sq {K : PySem.W.Frag} {H : Hp} {a : Addr} {ns : List Int} (h : Lst H a ns) : SqL K H a (ns.map V.int) := SqL.of h
theorem Lst.mono {H H' : Hp} {a : Addr} {ns : List Int} (s : Same H H') (h : Lst H a ns) : Lst H' a ns := s _ _ h
theorem row_get {ns : List Int} {i : Nat} (h : i < ns.length) : (ns.map V.int)[i]? = some (.int (ns.getD i 0)) := by
  rw [List.getElem?_map, List.getElem?_eq_getElem h, List.getD_eq_getElem?_getD, List.getElem?_eq_getElem h]; rfl
theorem row_item {ns : List Int} {i : Nat} {x : V} (h : (ns.map V.int)[i]? = some x) : ∃ n, x = .int n ∧ ns[i]? = some n := by
  rw [List.getElem?_map] at h
  cases e : ns[i]? with
  | none => rw [e] at h; cases h
  | some n => rw [e] at h; exact ⟨n, (Option.some.inj h).symm, rfl⟩
/-- is it a number -/
def Whole (K : PySem.W.Frag) (H : Hp) (x : V) (b : Bool) : Prop := ∃ (t : Value) (b1 b2 : Bool), TyX K H x t ∧ PySem.W.kitOne K t (.type "int") = some b1 ∧ (b1 = true → PySem.W.kitOne K t (.type "bool") = some b2) ∧ b = (b1 && !b2)
theorem whole_int {K : PySem.W.Frag} {H : Hp} (i : Int) : Whole K H (.int i) true := ⟨_, true, false, .base (.int i), kit_ty (by decide +kernel), fun _ => kit_ty (by decide +kernel), rfl⟩
def RowOk (ns : List Int) (m g : Int) : Prop := 1 ≤ ns.length ∧ (ns.length : Int) ≤ m ∧ ∀ x ∈ ns, 0 ≤ x ∧ x ≤ g
/-- the built-ins that the program names -/
structure Blt (mg : Str → Option Value) : Prop where
  isi : mg "isinstance" = none
  int : mg "int" = none
  bool : mg "bool" = none
  list : mg "list" = none
  len : mg "len" = none
  all : mg "all" = none
  range : mg "range" = none
  enum : mg "enumerate" = none
  tuple : mg "tuple" = none
  min : mg "min" = none
  max : mg "max" = none
  sorted : mg "sorted" = none
  sum : mg "sum" = none
  set : mg "set" = none
  any : mg "any" = none
theorem Same.seqT {K : PySem.W.Frag} {H H' : Hp} {a : Addr} {xs : List V} (e : Same H H') (h : SqT K H a xs) : SqT K H' a xs := by
  rcases h with (h | ⟨o, h⟩) | h
  · exact .inl (.inl (e _ _ h))
  · exact .inl (.inr ⟨o, e _ _ h⟩)
  · exact .inr h
theorem RowOk.len12 {ns : List Int} {g : Int} (h : RowOk ns 12 g) : ns.length ≤ 12 := by have := h.2.1; omega
theorem evI_len (ns : List Int) (i k : Nat) : (evI ns i k).length ≤ k := by
  unfold evI
  rw [List.length_map]
  exact Nat.le_trans (List.length_filter_le _ _) (by rw [List.length_range']; exact Nat.le_refl _)
theorem evN_len (ns : List Int) : ∀ m, (evN ns m).length ≤ m * ns.length
  | 0 => Nat.zero_le _
  | m + 1 => by
    have ih := evN_len ns m
    have h := evI_len ns m (ns.length - (m + 1))
    rw [evN_succ, List.length_append, Nat.succ_mul]
    omega
theorem evs_len {ns : List Int} (h : ns.length ≤ 12) : (evs ns).length ≤ 144 := Nat.le_trans (evN_len ns _) (Nat.le_trans (Nat.mul_le_mul h h) (by decide))
def behP (ns : List Int) (p : Pr) : List Int := beh ns p.1.toNat p.2.toNat
def fallP (ns : List Int) (p : Pr) : Int := (ns.getD p.1.toNat 0 - ns.getD p.2.toNat 0) * (ns.getD p.1.toNat 0 - ns.getD p.2.toNat 0) / 2
theorem RowOk.getD {ns : List Int} {m g : Int} (h : RowOk ns m g) {i : Nat} (hi : i < ns.length) : 0 ≤ ns.getD i 0 ∧ ns.getD i 0 ≤ g := by
  have e : ns.getD i 0 = ns[i] := by rw [List.getD_eq_getElem?_getD, List.getElem?_eq_getElem hi]; rfl
  rw [e]
  exact h.2.2 _ (List.getElem_mem hi)
end EG

/-! is_whole, check_row. -/
namespace EG
open PySem L2
section
variable {P : Program} {w : World} {K : PySem.W.Frag} {mg : Str → Option Value} {base : Heap}
/-! ### is_whole -/
def sp_is_whole (K : PySem.W.Frag) : Sp := fun vs H Q _ => ∃ (x : V) (b : Bool), vs = [x] ∧ Whole K H x b ∧ Q (.bl b) H
theorem ok_is_whole {f : Addr} {fd : FuncData} (F : Fun K "is_whole" "is_whole" s_is_whole f fd) (B : Blt mg) : FnOk P w K mg base CX0 1 f fd ["thing"] (sp_is_whole K) := by
  refine F.ok sc_is_whole (fun vs H Q E h => ?_) (fun cdv A outer s H vs Q E hr h => ?_)
  · obtain ⟨x, b, rfl, _⟩ := h
    rfl
  · obtain ⟨x, b, rfl, ⟨t, b1, b2, ht, h1, h2, rfl⟩, q⟩ := h
    refine ⟨_, pss_one (ps_ret (pe_and (pe_callB call_isi (by rfl) B.isi PyProof.Rows.boot_isinstance (pa_cons (pv 0) (pa_cons (pe_bltn (v := .ty "int") (by rfl) B.int PyProof.Rows.boot_int rfl) pa_nil)))
      (pe_one (pe_not (pe_callB call_isi (by rfl) B.isi PyProof.Rows.boot_isinstance (pa_cons (pv 0) (pa_cons (pe_bltn (v := .ty "bool") (by rfl) B.bool PyProof.Rows.boot_bool rfl) pa_nil))))))), ?_⟩
    refine ⟨x, rfl, _, _, _, _, b1, rfl, .ty _, ht, h1, b1, rfl, ?_⟩
    cases b1 with
    | false => exact iteF q
    | true => exact iteT ⟨x, rfl, _, _, _, _, b2, rfl, .ty _, ht, h2 rfl, b2, rfl, q⟩
/-! ### check_row, of a row -/
def sp_check_row : Sp := fun vs H Q _ => ∃ (a : Addr) (ns : List Int) (m g : Int), vs = [.ref a, .int m, .int g] ∧ Lst H a ns ∧ ns.length ≤ 900 ∧ RowOk ns m g ∧ ∀ H', Same H H' → Q .non H'
theorem ok_check_row {f : Addr} {fd : FuncData} (F : Fun K "check_row" "check_row" s_check_row f fd) (B : Blt mg) (cW : Cal CX0 P w K mg base "is_whole" ["thing"] 1 (sp_is_whole K)) :
    FnOk P w K mg base CX0 2 f fd ["row", "most", "greatest"] sp_check_row := by
  refine F.ok sc_check_row (fun vs H Q E h => ?_) (fun cdv A outer s H vs Q E hr h => ?_)
  · obtain ⟨a, ns, m, g, rfl, _⟩ := h
    rfl
  · obtain ⟨a, ns, m, g, rfl, hL, hl, ⟨h1, h2, h3⟩, q⟩ := h
    refine ⟨_, pss_cons (ps_if (PW.pt (pw_or (pt_not (pt_val (pe_callB call_isi (by rfl) B.isi PyProof.Rows.boot_isinstance (pa_cons (pv 0) (pa_cons (pe_bltn (v := .ty "list") (by rfl) B.list PyProof.Rows.boot_list rfl) pa_nil)))))
          (pw_or1 (pt_not (pt_chain op_le op_le pe_int (pe_callB call_len_seq (by rfl) B.len PySem.boot_len (pa_cons (pv 0) pa_nil)) (pv 1))))))
        (pss_one ps_never) pss_nil)
      (pss_one (ps_if (pt_not (pt_val (pe_callB (cr_all rfl) (by rfl) B.all PyProof.Rows.boot_all (pa_cons
          (pe_lc (own := [("one", 3)]) (g := gName 3) (tt := tYes) rfl sc_check_row.nd (pi_list (pv 0)) (blkOk_by (N := ["row", "most", "greatest", "one"]) (sc := defScope s_check_row) (by decide +kernel))
            (fun _ _ _ _ _ => pg_name (i := 3) sc_check_row.nd rfl (Or.inl rfl)) (fun _ _ _ _ _ => pts_nil)
            (fun _ _ _ _ _ => pe_and (pe_cal cW hr (by rfl) (pa_cons (pv 3) pa_nil)) (pe_one (pe_chain op_le op_le pe_int (pv 3) (pv 2))))) pa_nil))))
        (pss_one ps_never) pss_nil)), ?_⟩
    refine ⟨.ref a, rfl, _, _, _, _, true, rfl, .ty _, .base (.lst hL), kit_ty (by decide +kernel), true, rfl, iteF ?_⟩
    have e1 : decide ((1 : Int) ≤ ((ns.map V.int).length : Int)) = true := decide_eq_true (by rw [List.length_map]; omega)
    have e2 : decide (((ns.map V.int).length : Int) ≤ m) = true := decide_eq_true (by rw [List.length_map]; omega)
    refine ⟨.ref a, rfl, a, _, rfl, .inl hL.sq, _, _, rfl, rfl, _, rfl, itP e1 ⟨.int m, rfl, _, _, rfl, rfl, _, rfl, itN (by rw [e2]; decide) ?_⟩⟩
    -- the numbers
    refine ⟨.ref a, rfl, a, rfl, ⟨_, hL.sq⟩, fun D hD => lc_list (K := K) (a := a) (xs := ns.map V.int)
      (fun i H' => Same H H' ∧ H' D = some (.lst ((List.replicate i true).map V.bl))) ⟨same_new hD, upd_same⟩ (fun i H' _ h => (hL.mono h.1).sq) (fun i x H' hx h => ?_) (fun H' h => ?_)⟩
    · obtain ⟨n, rfl, hn⟩ := row_item hx
      have hil := (List.getElem?_eq_some_iff.mp hn).1
      obtain ⟨h5, h6⟩ := h3 n (List.mem_of_getElem? hn)
      refine ⟨rfl, iteT (B := True) ⟨.int n, rfl, _, true, rfl, whole_int n, true, rfl, iteT ⟨.int n, rfl, _, _, rfl, rfl, _, rfl, itP (decide_eq_true h5) ⟨.int g, rfl, _, _, rfl, rfl, ?_⟩⟩⟩⟩
      refine ⟨_, h.2, small1000 (by rw [List.length_map, List.length_replicate]; omega), ⟨fun b o e => ?_, ?_⟩⟩
      · rw [upd_ne (ne_of_none e hD)]
        exact h.1 b o e
      · have e6 : V.bl (decide (n ≤ g)) = V.bl true := by rw [decide_eq_true h6]
        rw [upd_same, List.replicate_succ', List.map_append]
        exact congrArg (fun z => some (HO.lst (_ ++ [z]))) e6
    · refine ⟨D, List.replicate ns.length true, rfl, SqL.of (by rw [h.2, List.length_map]), _, rfl, itN (by simp) (q H' h.1)⟩
end
end EG

/-! evenings_of, behind. -/
namespace EG
open PySem L2
section
variable {P : Program} {w : World} {K : PySem.W.Frag} {mg : Str → Option Value} {base : Heap}
/-! ### evenings_of -/
def sp_evenings_of (K : PySem.W.Frag) : Sp := fun vs H Q _ => ∃ (a : Addr) (ns : List Int), vs = [.ref a] ∧ SqL K H a (ns.map V.int) ∧ ns.length ≤ 12 ∧
  ∀ H' p ws, Same H H' → H p = none → H' p = some (.lst ws) → Prs H' ws (evs ns) → Q (.ref p) H'
theorem ok_evenings_of {f : Addr} {fd : FuncData} (F : Fun K "evenings_of" "evenings_of" s_evenings_of f fd) (B : Blt mg) : FnOk P w K mg base CX0 1 f fd ["row"] (sp_evenings_of K) := by
  refine F.ok sc_evenings_of (fun vs H Q E h => ?_) (fun cdv A outer s H vs Q E hr h => ?_)
  · obtain ⟨a, ns, rfl, _⟩ := h
    rfl
  · obtain ⟨a, ns, rfl, hS, hl, q⟩ := h
    refine ⟨_, pss_cons (ps_set (i := 1) sc_evenings_of.nd rfl (.inl rfl) (pe_lst pa_nil))
      (pss_cons (ps_for PassesOwn.never rfl (pi_range1 (by rfl) B.range (pa_cons (pe_callB call_len_seq (by rfl) B.len PySem.boot_len (pa_cons (pv 0) pa_nil)) pa_nil)) (pg_name (i := 2) sc_evenings_of.nd rfl (.inl rfl))
        (pss_one (ps_for PassesOwn.never rfl (pi_range2 (by rfl) B.range (pa_cons (pe_op op_add (pv 2) pe_int) (pa_cons (pe_callB call_len_seq (by rfl) B.len PySem.boot_len (pa_cons (pv 0) pa_nil)) pa_nil))) (pg_name (i := 3) sc_evenings_of.nd rfl (.inl rfl))
          (pss_one (ps_if (PW.pt (pw_and (pt_cmpR op_ne (pe_ix ix_list (pv 0) (pv 2) (fun _ _ => rfl)) (pe_ix ix_list (pv 0) (pv 3) (fun _ _ => rfl)) (nomark _))
              (pw_and1 (pt_cmpR op_eq (pe_op op_mod (pe_op op_add (pe_ix ix_list (pv 0) (pv 2) (fun _ _ => rfl)) (pe_ix ix_list (pv 0) (pv 3) (fun _ _ => rfl))) pe_int) pe_int (nomark _)))))
            (pss_one (ps_expr (pe_bm PySem.F.plainAttrs_list PySem.F.slot_list_append PySem.F.type_list_append mt_append (pv 1) (pa_cons (pe_tup (pa_cons (pv 2) (pa_cons (pv 3) pa_nil))) pa_nil))))
            pss_nil)))))
      (pss_one (ps_ret (pv 1)))), ?_⟩
    refine ⟨Nat.zero_le _, fun o ho => ?_⟩
    have s0 : Same H (upd H o (.lst [])) := same_new ho
    have en : (((ns.map V.int).length : Int)).toNat = ns.length := by rw [List.length_map]; omega
    refine ⟨.ref a, rfl, a, _, rfl, .inl (s0.seq hS), _, rfl, by rw [List.length_map]; omega, by rw [List.length_map]; omega, for_range
      (fun i σ H' => ∃ y2 y3 ws, σ = [some (.ref a), some (.ref o), y2, y3] ∧ Same H H' ∧ H' o = some (.lst ws) ∧ Prs H' ws (evN ns i))
      ⟨none, none, [], rfl, s0, upd_same, .nil⟩ (fun i σ H1 hi h => ?_) (fun σ H1 h => ?_)⟩
    · obtain ⟨y2, y3, ws, rfl, s1, h1, r1⟩ := h
      rw [en] at hi
      have ei : (((ns.map V.int).length : Int) - (0 + (i : Int) + 1)).toNat = ns.length - (i + 1) := by rw [List.length_map]; omega
      refine ⟨.int (0 + (i : Int)), rfl, _, _, rfl, rfl, .ref a, rfl, a, _, rfl, .inl (s1.seq hS), _, _, rfl, ⟨by omega, by omega, by rw [List.length_map]; omega, by rw [List.length_map]; omega⟩, for_range
        (fun k σ H' => ∃ y3 ws, σ = [some (.ref a), some (.ref o), some (.int (0 + (i : Int))), y3] ∧ Same H H' ∧ H' o = some (.lst ws) ∧ Prs H' ws (evN ns i ++ evI ns i k))
        ⟨y3, ws, rfl, s1, h1, by simpa [evI] using r1⟩ (fun k σ H2 hk h => ?_) (fun σ H2 h => ?_)⟩
      · obtain ⟨y4, ws, rfl, s2, h2, r2⟩ := h
        rw [ei] at hk
        have hA := s2.seq hS
        have hj : i + 1 + k < ns.length := by omega
        have g1 : atI (ns.map V.int) (0 + (i : Int)) = some (.int (ns.getD i 0)) := at_of (by omega) (row_get hi)
        have g2 : atI (ns.map V.int) (0 + (i : Int) + 1 + (k : Int)) = some (.int (ns.getD (i + 1 + k) 0)) := at_of (j := i + 1 + k) (by omega) (row_get hj)
        have hlen : ws.length < sizeLine := by
          rw [r2.length, List.length_append]
          have l1 := evN_len ns i
          have l2 := evI_len ns i k
          have l3 : i * ns.length ≤ 12 * 12 := Nat.mul_le_mul (by omega) (by omega)
          exact small1000 (by omega)
        refine ⟨.ref a, rfl, .int (0 + (i : Int)), rfl, a, _, _, _, rfl, rfl, hA, g1, .ref a, rfl, .int (0 + (i : Int) + 1 + (k : Int)), rfl, a, _, _, _, rfl, rfl, hA, g2, rfl, _, rfl, ?_⟩
        rw [dec_int]
        by_cases c1 : ns.getD i 0 = ns.getD (i + 1 + k) 0
        · refine itN (by rw [decide_eq_true c1]; decide) (iteF ?_)
          refine ⟨_, ws, rfl, s2, h2, ?_⟩
          rw [evI_succ, if_neg (by unfold goodP; rw [decide_eq_true c1]; simp), List.append_nil]
          exact r2
        · refine itP (by rw [decide_eq_false c1]; rfl) ?_
          refine ⟨.ref a, rfl, .int (0 + (i : Int)), rfl, a, _, _, _, rfl, rfl, hA, g1, .ref a, rfl, .int (0 + (i : Int) + 1 + (k : Int)), rfl, a, _, _, _, rfl, rfl, hA, g2, _, _, rfl, rfl, _, _, rfl, rfl, (by show (0 : Int) < 2; decide), rfl, _, rfl, ?_⟩
          rw [dec_int]
          by_cases c2 : (ns.getD i 0 + ns.getD (i + 1 + k) 0) % 2 = 0
          · refine itP (decide_eq_true c2) ?_
            refine ⟨.ref o, rfl, .inl ⟨rfl, _, SqL.of h2⟩, .int (0 + (i : Int)), rfl, .int (0 + (i : Int) + 1 + (k : Int)), rfl, (by show 2 ≤ sizeLine; decide), fun t ht => ?_⟩
            have st : Same H2 (upd H2 t (.tup [.int (0 + (i : Int)), .int (0 + (i : Int) + 1 + (k : Int))])) := same_new ht
            refine ⟨o, ws, _, rfl, rfl, st _ _ h2, hlen, ?_⟩
            have sT : TupS H2 (upd (upd H2 t (.tup [.int (0 + (i : Int)), .int (0 + (i : Int) + 1 + (k : Int))])) o (.lst (ws ++ [.ref t]))) := (Same.tups st).trans (tups_lst (st _ _ h2))
            refine ⟨_, _, rfl, fun b x e => ?_, upd_same, ?_⟩
            · rw [upd_ne (ne_of_none e ho)]
              exact st _ _ (s2 _ _ e)
            · rw [evI_succ, if_pos (by unfold goodP; rw [decide_eq_false c1, decide_eq_true c2]; rfl), ← List.append_assoc]
              refine prs_app (r2.mono sT) (.cons ⟨t, rfl, ?_⟩ .nil)
              have nt : t ≠ o := (ne_of_none h2 ht).symm
              rw [upd_ne nt, upd_same, show (0 : Int) + (i : Int) = ((i : Nat) : Int) by omega, show ((i : Nat) : Int) + 1 + (k : Int) = ((i + 1 + k : Nat) : Int) by omega]
          · refine itN (by rw [decide_eq_false c2]; decide) ?_
            refine ⟨_, ws, rfl, s2, h2, ?_⟩
            rw [evI_succ, if_neg (by unfold goodP; rw [decide_eq_false c2]; simp), List.append_nil]
            exact r2
      · obtain ⟨y4, ws, rfl, s2, h2, r2⟩ := h
        rw [ei] at r2
        exact ⟨_, _, ws, rfl, s2, h2, by rw [evN_succ]; exact r2⟩
    · obtain ⟨y2, y3, ws, rfl, s1, h1, r1⟩ := h
      rw [en] at r1
      exact ⟨.ref o, rfl, q H1 o ws s1 ho h1 r1⟩
/-! ### behind -/
def sp_behind (K : PySem.W.Frag) : Sp := fun vs H Q _ => ∃ (a e : Addr) (ns : List Int) (i j : Nat), vs = [.ref a, .ref e] ∧ SqL K H a (ns.map V.int) ∧ SqT K H e [.int (i : Int), .int (j : Int)] ∧ i < ns.length ∧ j < ns.length ∧ ns.length ≤ 12 ∧
  ∀ H' p, Same H H' → H p = none → Lst H' p (beh ns i j) → Q (.ref p) H'
theorem ok_behind {f : Addr} {fd : FuncData} (F : Fun K "behind" "behind" s_behind f fd) (B : Blt mg) : FnOk P w K mg base CX0 1 f fd ["row", "evening"] (sp_behind K) := by
  refine F.ok sc_behind (fun vs H Q E h => ?_) (fun cdv A outer s H vs Q E hr h => ?_)
  · obtain ⟨a, e, ns, i, j, rfl, _⟩ := h
    rfl
  · obtain ⟨a, e, ns, i, j, rfl, hS, hT, hi, hj, hl, q⟩ := h
    refine ⟨_, pss_cons (ps_asg (pv 1) (pg_tup rfl (pgs_cons (pg_name (i := 2) sc_behind.nd rfl (.inr rfl)) (pgs_cons (pg_name (i := 3) sc_behind.nd rfl (.inr rfl)) pgs_nil))))
      (pss_cons (ps_set (i := 4) sc_behind.nd rfl (.inr rfl) (pe_op op_fdiv (pe_op op_add (pe_ix ix_list (pv 0) (pv 2) (fun _ _ => rfl)) (pe_ix ix_list (pv 0) (pv 3) (fun _ _ => rfl))) pe_int))
      (pss_one (ps_ret (pe_lc (own := [("place", 5), ("number", 6)]) (g := gTup K 2 (gCons (gName 5) (gCons (gName 6) gNil))) (tt := tYes) rfl sc_behind.nd (pi_enum (by rfl) B.enum (pa_cons (pv 0) pa_nil)) (blkOk_by (N := ["row", "evening", "one", "other", "half", "place", "number"]) (sc := defScope s_behind) (by decide +kernel))
        (fun _ _ _ _ _ => pg_tup rfl (pgs_cons (pg_name (i := 5) sc_behind.nd rfl (.inl rfl)) (pgs_cons (pg_name (i := 6) sc_behind.nd rfl (.inl rfl)) pgs_nil))) (fun _ _ _ _ _ => pts_nil)
        (fun _ _ _ _ _ => pe_ifExp (pt_cmpR (r := rIn K false) op_in_seq (pv 5) (pe_tup (pa_cons (pv 2) (pa_cons (pv 3) pa_nil))) (by rfl)) (pv 4) (pv 6)))))), ?_⟩
    have g1 : atI (ns.map V.int) (i : Int) = some (.int (ns.getD i 0)) := atI_nat (row_get hi)
    have g2 : atI (ns.map V.int) (j : Int) = some (.int (ns.getD j 0)) := atI_nat (row_get hj)
    refine ⟨.ref e, rfl, e, _, rfl, hT, rfl, _, _, rfl, _, _, rfl, rfl, ?_⟩
    refine ⟨.ref a, rfl, .int (i : Int), rfl, a, _, _, _, rfl, rfl, hS, g1, .ref a, rfl, .int (j : Int), rfl, a, _, _, _, rfl, rfl, hS, g2, _, _, rfl, rfl, _, _, rfl, rfl, ⟨by decide, by decide⟩, ?_⟩
    refine ⟨.ref a, rfl, a, _, rfl, hS, fun D hD => ?_⟩
    have s0 : Same H (upd H D (.lst [])) := same_new hD
    refine ⟨fun k m H' => k + m = ns.length ∧ Same H H' ∧ H' D = some (.lst (((beh ns i j).take k).map V.int)), ⟨ns.length, by omega, s0, upd_same⟩, fun k m H1 h => ?_⟩
    obtain ⟨hk, s1, h1⟩ := h
    by_cases hlt : k < ns.length
    · refine .inr ⟨⟨_, _, s1.seq hS, row_get hlt⟩, fun H' => Same H H' ∧ H' D = some (.lst (((beh ns i j).take (k + 1)).map V.int)), fun H' h => ⟨m - 1, by omega, by omega, h.1, h.2⟩, fun x H' hy => ?_⟩
      obtain ⟨T, y, rfl, nT, rfl, fy⟩ := hy
      have ey : y = .int (ns.getD k 0) := Option.some.inj ((fy _ (s1.seq hS)).symm.trans (row_get hlt))
      subst ey
      have s2 : Same H1 (upd H1 T (.tup [.int (k : Nat), .int (ns.getD k 0)])) := same_new nT
      refine ⟨T, _, rfl, SqT.of upd_same, rfl, _, _, rfl, _, _, rfl, rfl, rfl, iteT (B := True) ?_⟩
      refine ⟨.int (k : Nat), rfl, .int (i : Int), rfl, .int (j : Int), rfl, (by show 2 ≤ sizeLine; decide), fun t ht => ?_⟩
      have s3 : Same (upd H1 T (.tup [.int (k : Nat), .int (ns.getD k 0)])) (upd (upd H1 T (.tup [.int (k : Nat), .int (ns.getD k 0)])) t (.tup [.int (i : Int), .int (j : Int)])) := same_new ht
      have s4 := (s1.trans s2).trans s3
      have hD4 := (s2.trans s3) _ _ h1
      have lenD : (((beh ns i j).take k).map V.int).length < sizeLine := by
        rw [List.length_map, List.length_take, beh_length]
        exact small1000 (by omega)
      have eg := beh_get ns i j k hlt
      have fin : ∀ z : V, z = .int (if k = i ∨ k = j then half ns i j else ns.getD k 0) → Same H (upd (upd (upd H1 T (.tup [.int (k : Nat), .int (ns.getD k 0)])) t (.tup [.int (i : Int), .int (j : Int)])) D (.lst (((beh ns i j).take k).map V.int ++ [z]))) ∧
          (upd (upd (upd H1 T (.tup [.int (k : Nat), .int (ns.getD k 0)])) t (.tup [.int (i : Int), .int (j : Int)])) D (.lst (((beh ns i j).take k).map V.int ++ [z]))) D = some (.lst (((beh ns i j).take (k + 1)).map V.int)) := fun z ez => by
        refine ⟨fun b o e => ?_, ?_⟩
        · rw [upd_ne (ne_of_none e hD)]
          exact s4 _ _ e
        · rw [upd_same, List.take_add_one, eg, List.map_append, ez]
          rfl
      refine ⟨t, _, rfl, .inr (SqT.of upd_same), rfl, rfl, _, rfl, ?_⟩
      have ein : (if false = true then !inV (V.int (k : Nat)) [V.int (i : Int), V.int (j : Int)] else inV (V.int (k : Nat)) [V.int (i : Int), V.int (j : Int)]) = decide (k = i ∨ k = j) := by
        rw [if_neg Bool.false_ne_true]
        unfold inV eqV
        simp only [List.any_cons, List.any_nil, Bool.or_false]
        by_cases c1 : k = i
        · subst c1; simp
        · by_cases c2 : k = j
          · subst c2; simp
          · have q1 : ((i : Int) == ((k : Nat) : Int)) = false := beq_eq_false_iff_ne.mpr (by omega)
            have q2 : ((j : Int) == ((k : Nat) : Int)) = false := beq_eq_false_iff_ne.mpr (by omega)
            rw [q1, q2]; simp [c1, c2]
      rw [ein]
      by_cases c : k = i ∨ k = j
      · refine itP (decide_eq_true c) ⟨_, rfl, _, hD4, lenD, fin _ ?_⟩
        rw [if_pos c]
        rfl
      · refine itN (by rw [decide_eq_false c]; decide) ⟨_, rfl, _, hD4, lenD, fin _ ?_⟩
        rw [if_neg c]
    · refine .inl ⟨⟨_, s1.seq hS, by rw [List.length_map]; omega⟩, ?_⟩
      rw [List.take_of_length_le (by rw [beh_length]; omega)] at h1
      exact q H1 D s1 hD h1
end
end EG

/-! Squares, unlike numbers, ranges with a step. -/
namespace EG
open PySem L2
theorem rgC_pos {len c : Int} (h1 : 1 ≤ c) (h2 : c ≤ 1000) (h3 : 0 ≤ len) (h4 : len ≤ 1000) : ∃ n : Nat, RgC 0 len c n ∧ ∀ i : Nat, i < n → (0 : Int) ≤ (i : Int) * c ∧ (i : Int) * c < len := by
  have e := PyProof.Rows.rangeSize_toNat 0 len c
  have l := PyProof.Rows.rangeSize_toNat_le 0 len c
  refine ⟨(Builtin.Range.rangeSize 0 len c).toNat, ⟨by omega, by omega, ?_, e⟩, fun i hi => PyProof.Rows.start_inside h1 h3 (by omega) (by omega)⟩
  unfold Builtin.Range.small
  rw [e]
  simp only [Builtin.Range.rangeFitsLong, Bool.and_eq_true, Bool.or_eq_true, decide_eq_true_eq, beq_iff_eq, show c > 0 by omega, if_true]
  omega
/-- the sum of the squares -/
def sq (ns : List Int) : Int := (ns.map fun x => x * x).sum
theorem map_getD {f : Int → Int} {ns : List Int} {i : Nat} (h : i < ns.length) : (ns.map f)[i]? = some (f (ns.getD i 0)) := by
  rw [List.getElem?_map, List.getElem?_eq_getElem h, List.getD_eq_getElem?_getD, List.getElem?_eq_getElem h]; rfl
theorem sq_beh {ns : List Int} {i j : Nat} (hi : i < ns.length) (hj : j < ns.length) (hij : i ≠ j) :
    sq (beh ns i j) = sq ns - ns.getD i 0 * ns.getD i 0 - ns.getD j 0 * ns.getD j 0 + half ns i j * half ns i j + half ns i j * half ns i j := by
  unfold sq
  rw [← beh_set, List.map_set, List.map_set]
  rw [sum_set (z := ns.getD j 0 * ns.getD j 0), sum_set (map_getD hi)]
  · omega
  · rw [List.getElem?_set_ne hij]
    exact map_getD hj
theorem sum_beh {ns : List Int} {i j : Nat} (hi : i < ns.length) (hj : j < ns.length) (hij : i ≠ j) (h2 : (ns.getD i 0 + ns.getD j 0) % 2 = 0) : (beh ns i j).sum = ns.sum := by
  have g : ∀ k, k < ns.length → ns[k]? = some (ns.getD k 0) := fun k h => by rw [List.getElem?_eq_getElem h, List.getD_eq_getElem?_getD, List.getElem?_eq_getElem h]; rfl
  rw [← beh_set, sum_set (z := ns.getD j 0), sum_set (g i hi)]
  · unfold half; omega
  · rw [List.getElem?_set_ne hij]
    exact g j hj
theorem goodP_iff {ns : List Int} {i j : Nat} : goodP ns i j = true ↔ ns.getD i 0 ≠ ns.getD j 0 ∧ (ns.getD i 0 + ns.getD j 0) % 2 = 0 := by
  unfold goodP
  rw [Bool.and_eq_true, decide_eq_true_eq, Bool.not_eq_true', decide_eq_false_iff_not]
theorem sq_fall {ns : List Int} {p : Pr} (hp : p ∈ evs ns) : fallP ns p = sq ns - sq (behP ns p) ∧ 1 ≤ fallP ns p := by
  obtain ⟨i, j, rfl, hij, hj, hg⟩ := mem_evs.mp hp
  obtain ⟨h1, h2⟩ := goodP_iff.mp hg
  have e : sq (behP ns ((i : Int), (j : Int))) = _ := sq_beh (ns := ns) (i := i) (j := j) (by omega) hj (by omega)
  rw [e]
  show (ns.getD i 0 - ns.getD j 0) * (ns.getD i 0 - ns.getD j 0) / 2 = _ ∧ 1 ≤ (ns.getD i 0 - ns.getD j 0) * (ns.getD i 0 - ns.getD j 0) / 2
  obtain ⟨h, eh⟩ : ∃ h, ns.getD i 0 + ns.getD j 0 = 2 * h := ⟨(ns.getD i 0 + ns.getD j 0) / 2, by omega⟩
  have ehf : half ns i j = h := by unfold half; omega
  rw [ehf]
  generalize ns.getD i 0 = a at *
  generalize ns.getD j 0 = b at *
  have eb : b = 2 * h - a := by omega
  subst eb
  obtain ⟨d, ed⟩ : ∃ d, a = h + d := ⟨a - h, by omega⟩
  subst ed
  have e1 : (h + d - (2 * h - (h + d))) * (h + d - (2 * h - (h + d))) = 2 * (2 * (d * d)) := by
    rw [show h + d - (2 * h - (h + d)) = 2 * d by omega, Int.mul_assoc, Int.mul_left_comm d 2 d]
  have e2 : (h + d) * (h + d) = h * h + 2 * (h * d) + d * d := by
    rw [Int.add_mul, Int.mul_add, Int.mul_add, Int.mul_comm d h]; omega
  have e3 : (2 * h - (h + d)) * (2 * h - (h + d)) = h * h - 2 * (h * d) + d * d := by
    rw [show 2 * h - (h + d) = h - d by omega, Int.sub_mul, Int.mul_sub, Int.mul_sub, Int.mul_comm d h]; omega
  have d0 : d ≠ 0 := by
    intro z; subst z; omega
  have dp : 0 < d * d := by
    rcases Int.lt_or_gt_of_ne d0 with z | z
    · exact Int.mul_pos_of_neg_of_neg z z
    · exact Int.mul_pos z z
  rw [e1, e2, e3]
  omega
theorem RowOk.beh {ns : List Int} {m g : Int} (h : RowOk ns m g) {p : Pr} (hp : p ∈ evs ns) : RowOk (behP ns p) m g := by
  obtain ⟨i, j, rfl, hij, hj, hg⟩ := mem_evs.mp hp
  have a1 := h.getD (i := i) (by omega)
  have a2 := h.getD hj
  refine ⟨by show 1 ≤ (EG.beh ns i j).length; rw [beh_length]; exact h.1, by show ((EG.beh ns i j).length : Int) ≤ m; rw [beh_length]; exact h.2.1, fun x hx => ?_⟩
  obtain ⟨k, hk⟩ := List.mem_iff_getElem?.mp (show x ∈ EG.beh ns i j from hx)
  have hkl : k < ns.length := by
    have := (List.getElem?_eq_some_iff.mp hk).1
    rw [beh_length] at this
    exact this
  rw [beh_get ns i j k hkl] at hk
  have e := Option.some.inj hk
  have a3 := h.getD hkl
  split at e
  · unfold half at e; omega
  · omega
/-! ### unlike numbers -/
theorem firstMet_map {val : Nat → Int} {f : Int → Int} {n : Nat} (h : ∀ i j, i < n → j < n → f (val i) = f (val j) → val i = val j) :
    ∀ i, i ≤ n → PyProof.Rows.firstMet (fun k => f (val k)) i = (PyProof.Rows.firstMet val i).map f
  | 0, _ => rfl
  | i + 1, hi => by
    have ih := firstMet_map h i (by omega)
    rw [PyProof.Rows.firstMet_succ, PyProof.Rows.firstMet_succ, ih]
    have e : ((PyProof.Rows.firstMet val i).map f).any (· == f (val i)) = (PyProof.Rows.firstMet val i).any (· == val i) := by
      rw [← ih, PyProof.Rows.firstMet_any, PyProof.Rows.firstMet_any]
      rw [Bool.eq_iff_iff, List.any_eq_true, List.any_eq_true]
      constructor
      · rintro ⟨x, hx, e⟩
        obtain ⟨k, hk, rfl⟩ := List.mem_map.mp hx
        have hk2 := List.mem_range.mp hk
        exact ⟨val k, List.mem_map.mpr ⟨k, hk, rfl⟩, beq_iff_eq.mpr (h k i (by omega) (by omega) (eq_of_beq e))⟩
      · rintro ⟨x, hx, e⟩
        obtain ⟨k, hk, rfl⟩ := List.mem_map.mp hx
        exact ⟨f (val k), List.mem_map.mpr ⟨k, hk, rfl⟩, beq_iff_eq.mpr (by rw [eq_of_beq e])⟩
    unfold PyProof.Rows.step_dedup
    rw [e]
    split
    · rfl
    · rw [List.map_append]; rfl
theorem dcount_rest {ns : List Int} (h : evs ns = []) : dcount (ns.map (· % 2)) = dcount ns := by
  have no : ∀ i j, i < j → j < ns.length → goodP ns i j = true → False := fun i j h1 h2 h3 => by
    have : ((i : Int), (j : Int)) ∈ evs ns := mem_evs.mpr ⟨i, j, rfl, h1, h2, h3⟩
    rw [h] at this
    cases this
  have inj : ∀ i j, i < ns.length → j < ns.length → (ns.getD i 0) % 2 = (ns.getD j 0) % 2 → ns.getD i 0 = ns.getD j 0 := fun i j hi hj e => by
    by_cases c : ns.getD i 0 = ns.getD j 0
    · exact c
    · rcases Nat.lt_trichotomy i j with l | l | l
      · exact (no i j l hj (goodP_iff.mpr ⟨c, by omega⟩)).elim
      · rw [l]
      · exact (no j i l hi (goodP_iff.mpr ⟨fun z => c z.symm, by omega⟩)).elim
  unfold dcount
  have e1 : (fun i => (ns.map (· % 2)).getD i 0) = fun i => (fun x : Int => x % 2) (ns.getD i 0) := by
    funext i
    rw [List.getD_eq_getElem?_getD, List.getD_eq_getElem?_getD, List.getElem?_map]
    cases ns[i]? <;> rfl
  rw [e1, List.length_map, firstMet_map (f := fun x => x % 2) (val := fun i => ns.getD i 0) inj ns.length (Nat.le_refl _), List.length_map]
/-! ### the row turned about -/
theorem rev_get {ns : List Int} {i : Nat} (h : i < ns.length) : ns.reverse.getD i 0 = ns.getD (ns.length - 1 - i) 0 := by
  rw [List.getD_eq_getElem?_getD, List.getD_eq_getElem?_getD, List.getElem?_reverse h]
theorem evs_rev_nil {ns : List Int} (h : evs ns = []) : evs ns.reverse = [] := by
  rw [List.eq_nil_iff_forall_not_mem]
  intro p hp
  obtain ⟨i, j, rfl, hij, hj, hg⟩ := mem_evs.mp hp
  rw [List.length_reverse] at hj
  obtain ⟨h1, h2⟩ := goodP_iff.mp hg
  rw [rev_get (by omega), rev_get (by omega)] at h1 h2
  have : (((ns.length - 1 - j : Nat) : Int), ((ns.length - 1 - i : Nat) : Int)) ∈ evs ns := mem_evs.mpr ⟨_, _, rfl, by omega, by omega, goodP_iff.mpr ⟨fun z => h1 z.symm, by omega⟩⟩
  rw [h] at this
  cases this
theorem evs_rev_iff {ns : List Int} : evs ns.reverse = [] ↔ evs ns = [] :=
  ⟨fun h => by have := evs_rev_nil h; rwa [List.reverse_reverse] at this, evs_rev_nil⟩
theorem RowOk.rev {ns : List Int} {m g : Int} (h : RowOk ns m g) : RowOk ns.reverse m g :=
  ⟨by rw [List.length_reverse]; exact h.1, by rw [List.length_reverse]; exact h.2.1, fun x hx => h.2.2 x (List.mem_reverse.mp hx)⟩
/-! ### small words -/
theorem cut63 (ns : List Int) : ∃ ms : List Int, cutV (ns.map V.int) none (some 63) = ms.map V.int ∧ (∀ z ∈ ms, z ∈ ns) ∧ ms.length ≤ ns.length := by
  refine ⟨(ns.drop (HT.sIx (ns.map V.int).length 0 none)).take (HT.sIx (ns.map V.int).length (ns.map V.int).length (some 63) - HT.sIx (ns.map V.int).length 0 none), ?_, fun z hz => List.mem_of_mem_drop (List.mem_of_mem_take hz), ?_⟩
  · unfold cutV
    rw [List.map_take, List.map_drop]
  · rw [List.length_take, List.length_drop]
    omega
theorem nq_prs (ps : List Pr) : ¬ (!PyData.eqv (prsD ps) (prsD ps)) = true := by rw [eqv_prs, decide_eq_true rfl]; decide
theorem nq_row (ns : List Int) : ¬ (!PyData.eqv (rowD ns) (rowD ns)) = true := by rw [eqv_row, decide_eq_true rfl]; decide
theorem all_rep (n : Nat) : (List.replicate n true).all id = true := by simp
/-- what is made and then changed leaves what stood before -/
theorem same_upd2 {H H1 : Hp} {o : Addr} {x : HO} (s : Same H H1) (n : H o = none) : Same H (upd H1 o x) := fun b u e => by
  rw [upd_ne (ne_of_none e n)]
  exact s _ _ e
theorem dp_row' {K : PySem.W.Frag} {H : Hp} {a : Addr} {ns : List Int} (h : Lst H a ns) : Dp K H (.ref a) (rowD ns) := dp_row h.sq
theorem two_ways {c : Prop} [Decidable c] {U V : Prop} (v : V) (h : c → V → U) : if c then U else V := by
  by_cases x : c
  · rw [if_pos x]; exact h x v
  · rw [if_neg x]; exact v
theorem offF {A B : Prop} (h : if false = true then A else B) : B := by
  rw [if_neg Bool.false_ne_true] at h
  exact h
end EG

/-! Rows that come by a count of evenings; how many small rows there are. -/
namespace EG
open PySem L2
abbrev Rw := List Int
def ins (ks : List Rw) (r : Rw) : List Rw := if r ∈ ks then ks else ks ++ [r]
def kids (r : Rw) : List Rw := (evs r).map (behP r)
def nextL (L : List Rw) : List Rw := L.foldl (fun acc r => (kids r).foldl ins acc) []
def lev (ns : Rw) : Nat → List Rw
  | 0 => [ns]
  | n + 1 => nextL (lev ns n)
inductive Rch : Rw → Nat → Rw → Prop
  | zero (r : Rw) : Rch r 0 r
  | step {r q : Rw} {n : Nat} {p : Pr} : Rch r n q → p ∈ evs q → Rch r (n + 1) (behP q p)
theorem mem_ins {ks : List Rw} {r x : Rw} : x ∈ ins ks r ↔ x ∈ ks ∨ x = r := by
  unfold ins
  split
  · constructor
    · exact .inl
    · rintro (h | rfl)
      · exact h
      · assumption
  · rw [List.mem_append, List.mem_singleton]
theorem mem_insAll {x : Rw} : ∀ {rs acc : List Rw}, x ∈ rs.foldl ins acc ↔ x ∈ acc ∨ x ∈ rs
  | [], acc => by simp
  | r :: rs, acc => by rw [List.foldl_cons, mem_insAll, mem_ins, List.mem_cons, or_assoc]
theorem nd_ins {ks : List Rw} {r : Rw} (h : ks.Nodup) : (ins ks r).Nodup := by
  unfold ins
  split
  · exact h
  · rename_i c
    exact List.nodup_append.mpr ⟨h, List.nodup_cons.mpr ⟨List.not_mem_nil, List.nodup_nil⟩, fun a ha b hb e => c (by rw [List.mem_singleton] at hb; rw [← hb, ← e]; exact ha)⟩
theorem nd_insAll : ∀ {rs acc : List Rw}, acc.Nodup → (rs.foldl ins acc).Nodup
  | [], _, h => h
  | _ :: rs, _, h => nd_insAll (rs := rs) (nd_ins h)
/-- a level so far -/
def levN (L : List Rw) (i : Nat) : List Rw := (L.take i).foldl (fun acc r => (kids r).foldl ins acc) []
theorem levN_succ {L : List Rw} {i : Nat} {r : Rw} (h : L[i]? = some r) : levN L (i + 1) = (kids r).foldl ins (levN L i) := by
  unfold levN
  rw [List.take_add_one, h, List.foldl_append]
  rfl
theorem levN_all (L : List Rw) : levN L L.length = nextL L := by unfold levN nextL; rw [List.take_length]
theorem mem_fold {x : Rw} : ∀ {L acc : List Rw}, x ∈ L.foldl (fun acc r => (kids r).foldl ins acc) acc ↔ x ∈ acc ∨ ∃ r ∈ L, x ∈ kids r
  | [], acc => by simp
  | r :: L, acc => by
    rw [List.foldl_cons, mem_fold, mem_insAll]
    simp only [List.mem_cons, exists_eq_or_imp, or_assoc]
theorem mem_levN {x : Rw} {L : List Rw} {i : Nat} : x ∈ levN L i ↔ ∃ r ∈ L.take i, x ∈ kids r := by unfold levN; rw [mem_fold]; simp
theorem nd_fold : ∀ {L acc : List Rw}, acc.Nodup → (L.foldl (fun acc r => (kids r).foldl ins acc) acc).Nodup
  | [], _, h => h
  | _ :: L, _, h => nd_fold (L := L) (nd_insAll h)
theorem nd_levN (L : List Rw) (i : Nat) : (levN L i).Nodup := nd_fold List.nodup_nil
theorem nd_lev (ns : Rw) : ∀ n, (lev ns n).Nodup
  | 0 => List.nodup_cons.mpr ⟨List.not_mem_nil, List.nodup_nil⟩
  | _ + 1 => nd_fold List.nodup_nil
theorem mem_kids {r x : Rw} : x ∈ kids r ↔ ∃ p ∈ evs r, x = behP r p := by
  unfold kids
  rw [List.mem_map]
  constructor
  · rintro ⟨p, h, rfl⟩; exact ⟨p, h, rfl⟩
  · rintro ⟨p, h, rfl⟩; exact ⟨p, h, rfl⟩
theorem mem_lev {ns x : Rw} : ∀ {n : Nat}, x ∈ lev ns n ↔ Rch ns n x
  | 0 => by
    show x ∈ [ns] ↔ _
    rw [List.mem_singleton]
    constructor
    · rintro rfl; exact .zero _
    · intro h; cases h; rfl
  | n + 1 => by
    show x ∈ nextL (lev ns n) ↔ _
    unfold nextL
    rw [mem_fold]
    constructor
    · rintro (h | ⟨r, hr, hx⟩)
      · cases h
      · obtain ⟨p, hp, rfl⟩ := mem_kids.mp hx
        exact .step (mem_lev.mp hr) hp
    · intro h
      cases h with
      | @step q _ p h hp => exact .inr ⟨q, mem_lev.mpr h, mem_kids.mpr ⟨p, hp, rfl⟩⟩
theorem Rch.sq {ns r : Rw} {n : Nat} (h : Rch ns n r) : EG.sq r + n ≤ EG.sq ns := by
  induction h with
  | zero => omega
  | step h hp ih =>
    have := sq_fall hp
    omega
theorem Rch.ok {ns r : Rw} {n : Nat} {m g : Int} (h : Rch ns n r) (ok : RowOk ns m g) : RowOk r m g := by
  induction h with
  | zero => exact ok
  | step h hp ih => exact ih.beh hp
theorem behP_length (r : Rw) (p : Pr) : (behP r p).length = r.length := beh_length _ _ _
theorem Rch.len {ns r : Rw} {n : Nat} (h : Rch ns n r) : r.length = ns.length := by
  induction h with
  | zero => rfl
  | step h hp ih => rw [behP_length, ih]
theorem behP_sum {r : Rw} {p : Pr} (hp : p ∈ evs r) : (behP r p).sum = r.sum := by
  obtain ⟨i, j, rfl, hij, hj, hg⟩ := mem_evs.mp hp
  exact sum_beh (by omega) hj (by omega) (goodP_iff.mp hg).2
theorem Rch.sum {ns r : Rw} {n : Nat} (h : Rch ns n r) : List.sum r = List.sum ns := by
  induction h with
  | zero => rfl
  | step h hp ih => rw [behP_sum hp, ih]
theorem sq_nonneg (r : Rw) : 0 ≤ sq r := by
  unfold sq
  induction r with
  | nil => exact Int.le_refl _
  | cons x r ih =>
    rw [List.map_cons, List.sum_cons]
    have : 0 ≤ x * x := by
      rcases Int.le_total 0 x with h | h
      · exact Int.mul_nonneg h h
      · exact Int.mul_nonneg_of_nonpos_of_nonpos h h
    omega
theorem Rch.bound {ns r : Rw} {n : Nat} (h : Rch ns n r) : n ≤ (EG.sq ns).toNat := by
  have h1 := h.sq
  have h2 := sq_nonneg r
  omega
theorem lev_end (ns : Rw) {n : Nat} (h : (sq ns).toNat < n) : lev ns n = [] := by
  rw [List.eq_nil_iff_forall_not_mem]
  intro r hr
  have := (mem_lev.mp hr).bound
  omega
/-- how many rows there are -/
theorem nodup_lt : ∀ (M : Nat) (l : List Nat), l.Nodup → (∀ x ∈ l, x < M) → l.length ≤ M
  | 0, l, _, h => by
    cases l with
    | nil => exact Nat.le_refl _
    | cons x l => exact absurd (h x List.mem_cons_self) (by omega)
  | M + 1, l, nd, h => by
    by_cases c : M ∈ l
    · have ih := nodup_lt M (l.erase M) (nd.erase M) fun x hx => by
        have h1 := h x (List.mem_of_mem_erase hx)
        have h2 : x ≠ M := (nd.mem_erase_iff.mp hx).1
        omega
      rw [List.length_erase_of_mem c] at ih
      omega
    · have ih := nodup_lt M l nd fun x hx => by
        have h1 := h x hx
        have h2 : x ≠ M := fun e => c (by rw [← e]; exact hx)
        omega
      omega
def code (r : Rw) : Nat := r.foldr (fun x a => x.toNat + 21 * a) 0
theorem code_lt : ∀ {r : Rw}, (∀ x ∈ r, 0 ≤ x ∧ x ≤ 20) → code r < 21 ^ r.length
  | [], _ => by decide
  | x :: r, h => by
    have h1 := h x List.mem_cons_self
    have ih := code_lt (r := r) fun y hy => h y (List.mem_cons_of_mem _ hy)
    show x.toNat + 21 * code r < 21 ^ (r.length + 1)
    rw [Nat.pow_succ]
    omega
theorem code_inj : ∀ {r q : Rw}, r.length = q.length → (∀ x ∈ r, 0 ≤ x ∧ x ≤ 20) → (∀ x ∈ q, 0 ≤ x ∧ x ≤ 20) → code r = code q → r = q
  | [], [], _, _, _, _ => rfl
  | [], _ :: _, h, _, _, _ => by simp at h
  | _ :: _, [], h, _, _, _ => by simp at h
  | x :: r, y :: q, hl, hr, hq, e => by
    have h1 := hr x List.mem_cons_self
    have h2 := hq y List.mem_cons_self
    have e' : x.toNat + 21 * code r = y.toNat + 21 * code q := e
    have e1 : x = y := by omega
    have e2 : code r = code q := by omega
    rw [e1, code_inj (by simpa using hl) (fun z hz => hr z (List.mem_cons_of_mem _ hz)) (fun z hz => hq z (List.mem_cons_of_mem _ hz)) e2]
theorem small_count {L : List Rw} (nd : L.Nodup) {n : Nat} (hn : n ≤ 5) (h : ∀ r ∈ L, r.length = n ∧ ∀ x ∈ r, 0 ≤ x ∧ x ≤ 20) : L.length ≤ 4084101 := by
  have h1 : (L.map code).length ≤ 21 ^ n := by
    refine nodup_lt _ _ ?_ ?_
    · rw [List.nodup_iff_pairwise_ne, List.pairwise_map]
      refine List.Pairwise.imp_of_mem ?_ (List.nodup_iff_pairwise_ne.mp nd)
      intro a b ha hb hne e
      exact hne (code_inj ((h a ha).1.trans (h b hb).1.symm) (h a ha).2 (h b hb).2 e)
    · intro x hx
      obtain ⟨r, hr, rfl⟩ := List.mem_map.mp hx
      have := code_lt (h r hr).2
      rwa [(h r hr).1] at this
  rw [List.length_map] at h1
  have h2 : 21 ^ n ≤ 21 ^ 5 := Nat.pow_le_pow_right (by decide) hn
  exact Nat.le_trans h1 (Nat.le_trans h2 (by decide))
abbrev Small (ns : Rw) : Prop := RowOk ns 5 20
theorem Small.row12 {ns : Rw} (h : Small ns) : ns.length ≤ 12 := by have := h.2.1; omega
theorem Small.len5 {ns : Rw} (h : Small ns) : ns.length ≤ 5 := by have := h.2.1; omega
theorem sq_le : ∀ {ns : Rw}, (∀ x ∈ ns, 0 ≤ x ∧ x ≤ 20) → sq ns ≤ 400 * ns.length
  | [], _ => by decide
  | x :: ns, h => by
    have ih := sq_le (ns := ns) fun y hy => h y (List.mem_cons_of_mem _ hy)
    obtain ⟨h1, h2⟩ := h x List.mem_cons_self
    have h3 : x * x ≤ 20 * 20 := Int.mul_le_mul h2 h2 h1 (by decide)
    show (List.map (fun x => x * x) (x :: ns)).sum ≤ 400 * ((x :: ns).length : Int)
    unfold sq at ih
    rw [List.map_cons, List.sum_cons, List.length_cons]
    omega
theorem Small.sq {ns : Rw} (h : Small ns) : (EG.sq ns).toNat ≤ 2000 := by
  have h1 := sq_le h.2.2
  have h2 := h.len5
  omega
theorem count_le {L : List Rw} {ns : Rw} (ok : Small ns) (nd : L.Nodup) (h : ∀ r ∈ L, ∃ n, Rch ns n r) : L.length ≤ 4084101 :=
  small_count nd ok.len5 fun r hr => by
    obtain ⟨n, hn⟩ := h r hr
    exact ⟨hn.len, (hn.ok ok).2.2⟩
theorem lev_count {ns : Rw} (ok : Small ns) (n : Nat) : (lev ns n).length ≤ 4084101 := count_le ok (nd_lev ns n) fun _ hr => ⟨n, mem_lev.mp hr⟩
theorem lineB {n : Nat} (h : n ≤ 4100000) : n < sizeLine := Nat.lt_of_le_of_lt h (by decide)
end EG

/-! The law's own small functions, common to the laws. -/
namespace EG
open PySem L2
theorem at_in {xs : List V} {i : Int} (h0 : 0 ≤ i) (h1 : i < xs.length) : ∃ v, atI xs i = some v ∧ v ∈ xs := by
  have hl : i.toNat < xs.length := by omega
  exact ⟨xs[i.toNat], at_of (j := i.toNat) (by omega) (List.getElem?_eq_getElem hl), List.getElem_mem hl⟩
abbrev bits (i : Int) : Nat := Builtin.Int.intBits i
section
variable {P : Program} {w : World} {K : PySem.W.Frag} {mg : Str → Option Value} {base : Heap}
/-! ### a cell of the script -/
def sp_cell_at (K : PySem.W.Frag) : Sp := fun vs H Q _ => ∃ (a : Addr) (ns : List Int) (k : Int), vs = [.ref a, .int k] ∧ SqL K H a (ns.map V.int) ∧ 0 ≤ k ∧ ∀ z : Int, (z = 0 ∨ z ∈ ns) → Q (.int z) H
theorem ok_cell_at {f : Addr} {fd : FuncData} (F : Fun K "_law_cell_at" "_law_cell_at" s_l_cell_at f fd) (B : Blt mg) : FnOk P w K mg base CX0 1 f fd ["_law_script", "_law_k"] (sp_cell_at K) := by
  refine F.ok sc_l_cell_at (fun vs H Q E h => ?_) (fun cdv A outer s H vs Q E hr h => ?_)
  · obtain ⟨a, ns, k, rfl, _⟩ := h
    rfl
  · obtain ⟨a, ns, k, rfl, hS, h0, q⟩ := h
    refine ⟨_, pss_cons (ps_if (pt_cmpR op_lt (pv 1) (pe_callB call_len_seq (by rfl) B.len PySem.boot_len (pa_cons (pv 0) pa_nil)) (nomark _)) (pss_one (ps_ret (pe_ix ix_list (pv 0) (pv 1) (fun _ _ => rfl)))) pss_nil)
      (pss_one (ps_ret pe_int)), ?_⟩
    refine ⟨.int k, rfl, .ref a, rfl, a, _, rfl, .inl hS, _, _, rfl, rfl, _, rfl, ite2 (fun c => ?_) (fun _ => q 0 (.inl rfl))⟩
    have c1 : k < ((ns.map V.int).length : Int) := of_decide_eq_true c
    obtain ⟨v, e, hv⟩ := at_in h0 c1
    obtain ⟨z, hz, rfl⟩ := List.mem_map.mp hv
    exact ⟨.ref a, rfl, .int k, rfl, a, _, _, _, rfl, rfl, hS, e, q z (.inr hz)⟩
/-! ### a draw -/
def primes : List Int := [1000003, 1000033, 1000037, 1000039, 1000081, 1000099, 1000117, 1000121, 1000133, 1000151, 1000159, 1000171, 1000183, 1000187, 1000193, 1000199]
def sp_draw : Sp := fun vs H Q _ => ∃ c k m : Int, vs = [.int c, .int k, .int m] ∧ 0 < m ∧ ∀ H' z, Same H H' → Q (.int z) H'
theorem ok_draw {f : Addr} {fd : FuncData} (F : Fun K "_law_draw" "_law_draw" s_l_draw f fd) : FnOk P w K mg base CX0 1 f fd ["_law_cell", "_law_k", "_law_many"] sp_draw := by
  refine F.ok sc_l_draw (fun vs H Q E h => ?_) (fun cdv A outer s H vs Q E hr h => ?_)
  · obtain ⟨c, k, m, rfl, _⟩ := h
    rfl
  · obtain ⟨c, k, m, rfl, hm, q⟩ := h
    refine ⟨_, pss_cons (ps_set (i := 3) sc_l_draw.nd rfl (.inl rfl) (pe_tup (pa_cons pe_int (pa_cons pe_int (pa_cons pe_int (pa_cons pe_int (pa_cons pe_int (pa_cons pe_int (pa_cons pe_int (pa_cons pe_int
        (pa_cons pe_int (pa_cons pe_int (pa_cons pe_int (pa_cons pe_int (pa_cons pe_int (pa_cons pe_int (pa_cons pe_int (pa_cons pe_int pa_nil))))))))))))))))))
      (pss_one (ps_ret (pe_op op_mod (pe_op op_mod (pe_op op_add (pe_op op_mul (pv 0) pe_int) (pe_op op_mul (pv 1) pe_int)) (pe_ix ix_tup (pv 3) (pe_op op_mod (pv 1) pe_int) (fun _ _ => rfl))) (pv 2)))), ?_⟩
    refine ⟨(by show 16 ≤ sizeLine; decide), fun t ht => ?_⟩
    have hT : (upd H t (.tup (primes.map V.int))) t = some (.tup (primes.map V.int)) := upd_same
    refine ⟨.int c, rfl, _, _, rfl, rfl, .inr ⟨by decide, by decide⟩, .int k, rfl, _, _, rfl, rfl, .inr ⟨by decide, by decide⟩, _, _, rfl, rfl, ?_⟩
    have h16 : (0 : Int) ≤ k % 16 ∧ k % 16 < 16 := by omega
    obtain ⟨v, e, hv⟩ := at_in (xs := primes.map V.int) (i := k % 16) h16.1 h16.2
    obtain ⟨z, hz, rfl⟩ := List.mem_map.mp hv
    have hz0 : (0 : Int) < z := by
      revert hz
      revert z
      intro z _ _ hz
      have : ∀ y ∈ primes, (0 : Int) < y := by decide
      exact this z hz
    refine ⟨.ref t, rfl, .int k, rfl, _, _, rfl, rfl, (by show (0 : Int) < 16; decide), t, _, _, _, rfl, rfl, SqT.of hT, e, _, _, rfl, rfl, hz0, .int m, rfl, _, _, rfl, rfl, hm, ?_⟩
    exact q _ _ (same_new ht)
/-! ### a value -/
def sp_value : Sp := fun vs H Q _ => ∃ c k : Int, vs = [.int c, .int k] ∧ bits c ≤ 1048600 ∧ 0 ≤ k ∧ k ≤ 1000 ∧ ∀ H' z, Same H H' → Q (.int z) H'
theorem bits_small {z : Int} (h : z.natAbs < 2 ^ 64) : bits z ≤ 64 := intBits_le_iff.mpr h
theorem bits_add {c z : Int} {m : Nat} (hc : bits c ≤ m) (hz : z.natAbs < 2 ^ 64) (hm : 64 ≤ m) : bits (c + z) ≤ m + 1 := by
  have h := intBits_add_le hc (bits_small hz)
  rw [Nat.max_eq_left hm] at h
  exact h
theorem ok_value {f : Addr} {fd : FuncData} (F : Fun K "_law_value" "_law_value" s_l_value f fd) (cD : Cal CX0 P w K mg base "_law_draw" ["_law_cell", "_law_k", "_law_many"] 1 sp_draw) : FnOk P w K mg base CX0 2 f fd ["_law_cell", "_law_turn"] sp_value := by
  refine F.ok sc_l_value (fun vs H Q E h => ?_) (fun cdv A outer s H vs Q E hr h => ?_)
  · obtain ⟨c, k, rfl, _⟩ := h
    rfl
  · obtain ⟨c, k, rfl, hb, h0, h1, q⟩ := h
    refine ⟨_, pss_cons (ps_if (pt_cmpR op_ge (pv 0) (pe_op op_pow pe_int pe_int) (nomark _)) (pss_one (ps_ret (pe_op op_shr (pe_op op_sub (pv 0) (pe_op op_pow pe_int pe_int)) (pe_op op_mul pe_int (pv 1))))) pss_nil)
      (pss_cons (ps_set (i := 2) sc_l_value.nd rfl (.inl rfl) (pe_cal cD hr (by rfl) (pa_cons (pe_op op_mulB (pe_op op_add (pv 0) (pe_op op_mul pe_int (pv 1))) (pe_op op_add (pe_op op_add (pv 0) (pe_op op_mul pe_int (pv 1))) pe_int))
          (pa_cons (pe_op op_add (pe_op op_mod (pv 1) pe_int) pe_int) (pa_cons pe_int pa_nil)))))
      (pss_one (ps_ret (pe_op op_add (pe_op op_mul (pv 2) pe_int) (pe_cal cD hr (by rfl) (pa_cons (pe_op op_add (pe_op op_mulB (pe_op op_add (pv 0) (pe_op op_mul pe_int (pv 1))) (pe_op op_add (pv 0) pe_int)) (pe_op op_mul pe_int (pv 1)))
          (pa_cons (pe_op op_add (pe_op op_mod (pv 1) pe_int) pe_int) (pa_cons pe_int pa_nil)))))))), ?_⟩
    have pw : CPow 10 18 := ⟨by decide, by decide, by decide⟩
    refine ⟨.int c, rfl, _, _, rfl, rfl, pw, _, _, rfl, rfl, _, rfl, ite2 (fun _ => ?_) (fun _ => ?_)⟩
    · refine ⟨.int c, rfl, _, _, rfl, rfl, pw, _, _, rfl, rfl, .int k, rfl, _, _, rfl, rfl, .inl ⟨by decide, by decide⟩, _, _, rfl, rfl, by omega, ?_⟩
      exact q _ _ (Same.refl _)
    · have b1 : bits (c + 977 * k) ≤ 1048601 := bits_add hb (by omega) (by decide)
      have b2 : bits (c + 31 * k) ≤ 1048601 := bits_add hb (by omega) (by decide)
      have b3 : bits (c + 31 * k + 5) ≤ 1048602 := bits_add b2 (by decide) (by decide)
      have b4 : bits (c + 7) ≤ 1048601 := bits_add hb (by decide) (by decide)
      refine ⟨.int c, rfl, .int k, rfl, _, _, rfl, rfl, .inl ⟨by decide, by decide⟩, _, _, rfl, rfl, .int c, rfl, .int k, rfl, _, _, rfl, rfl, .inl ⟨by decide, by decide⟩, _, _, rfl, rfl, _, _, rfl, rfl, _, _, rfl, rfl, IntMulOk.of_le b1 b3 (by decide), ?_⟩
      refine ⟨.int k, rfl, _, _, rfl, rfl, (by show (0 : Int) < 9; decide), _, _, rfl, rfl, _, _, _, rfl, by decide, fun H1 z1 s1 => ?_⟩
      refine ⟨.int z1, rfl, _, _, rfl, rfl, .inr ⟨by decide, by decide⟩, ?_⟩
      refine ⟨.int c, rfl, .int k, rfl, _, _, rfl, rfl, .inl ⟨by decide, by decide⟩, _, _, rfl, rfl, .int c, rfl, _, _, rfl, rfl, _, _, rfl, rfl, IntMulOk.of_le b2 b4 (by decide), .int k, rfl, _, _, rfl, rfl, .inl ⟨by decide, by decide⟩, _, _, rfl, rfl, ?_⟩
      refine ⟨.int k, rfl, _, _, rfl, rfl, (by show (0 : Int) < 7; decide), _, _, rfl, rfl, _, _, _, rfl, by decide, fun H2 z2 s2 => ?_⟩
      exact ⟨_, _, rfl, rfl, q _ _ (s1.trans s2)⟩
end
end EG

/-! A drawn row; the law's own evenings and evening. -/
namespace EG
open PySem L2
section
variable {P : Program} {w : World} {K : PySem.W.Frag} {mg : Str → Option Value} {base : Heap}
def sp_row (K : PySem.W.Frag) : Sp := fun vs H Q _ => ∃ (a : Addr) (ns : List Int) (b m g : Int), vs = [.ref a, .int b, .int m, .int g] ∧ SqL K H a (ns.map V.int) ∧ (∀ z ∈ ns, bits z ≤ 1048576) ∧ 0 ≤ b ∧ b ≤ 1000 ∧ 0 < m ∧ m ≤ 12 ∧ 3 ≤ g ∧ g ≤ 1000000 ∧
  ∀ H' p ms, Same H H' → H p = none → Lst H' p ms → RowOk ms m g → Q (.ref p) H'
theorem ok_row {f : Addr} {fd : FuncData} (F : Fun K "_law_row" "_law_row" s_l_row f fd) (B : Blt mg) (cC : Cal CX0 P w K mg base "_law_cell_at" ["_law_script", "_law_k"] 1 (sp_cell_at K))
    (cV : Cal CX0 P w K mg base "_law_value" ["_law_cell", "_law_turn"] 2 sp_value) : FnOk P w K mg base CX0 3 f fd ["_law_script", "_law_by", "_law_most", "_law_greatest"] (sp_row K) := by
  refine F.ok sc_l_row (fun vs H Q E h => ?_) (fun cdv A outer s H vs Q E hr h => ?_)
  · obtain ⟨a, ns, b, m, g, rfl, _⟩ := h
    rfl
  · obtain ⟨a, ns, b, m, g, rfl, hS, hb, b0, b1, m0, m1, g0, g1, q⟩ := h
    refine ⟨_, pss_cons (ps_set (i := 4) sc_l_row.nd rfl (.inl rfl) (pe_cal cC hr (by rfl) (pa_cons (pv 0) (pa_cons (pv 1) pa_nil))))
      (pss_cons (ps_par (i := 5) (j := 6) rfl sc_l_row.nd rfl rfl (by decide) rfl rfl (pa_cons
          (pe_ix ix_tup (pe_tup (pa_cons (pv 3) (pa_cons pe_int (pa_cons (pe_op op_fdiv (pv 3) pe_int) (pa_cons pe_int pa_nil))))) (pe_op op_mod (pe_cal cV hr (by rfl) (pa_cons (pv 4) (pa_cons pe_int pa_nil))) pe_int) (fun _ _ => rfl)) (pa_cons
          (pe_ix ix_tup (pe_tup (pa_cons pe_int (pa_cons pe_int (pa_cons pe_int (pa_cons pe_int pa_nil))))) (pe_op op_mod (pe_cal cV hr (by rfl) (pa_cons (pv 4) (pa_cons pe_int pa_nil))) pe_int) (fun _ _ => rfl)) pa_nil)) (by rfl))
      (pss_cons (ps_set (i := 7) sc_l_row.nd rfl (.inl rfl) (pe_lst pa_nil))
      (pss_cons (ps_for PassesOwn.never rfl (pi_range1 (by rfl) B.range (pa_cons (pe_op op_add pe_int (pe_op op_mod (pe_cal cV hr (by rfl) (pa_cons (pv 4) (pa_cons pe_int pa_nil))) (pv 2))) pa_nil)) (pg_name (i := 8) sc_l_row.nd rfl (.inl rfl))
        (pss_cons (ps_set (i := 9) sc_l_row.nd rfl (.inl rfl) (pe_op op_fdiv (pe_cal cV hr (by rfl) (pa_cons (pe_op op_add (pe_cal cC hr (by rfl) (pa_cons (pv 0) (pa_cons (pe_op op_add (pv 1) (pe_op op_mod (pv 8) pe_int)) pa_nil))) (pe_op op_mul pe_int (pv 8)))
            (pa_cons (pe_op op_add pe_int (pe_op op_mod (pv 8) pe_int)) pa_nil))) pe_int))
        (pss_one (ps_expr (pe_bm PySem.F.plainAttrs_list PySem.F.slot_list_append PySem.F.type_list_append mt_append (pv 7) (pa_cons (pe_callB (call_min2 rfl) (by rfl) B.min PyProof.Rows.boot_min (pa_cons (pv 3) (pa_cons
            (pe_op op_mul (pe_op op_mod (pv 9) (pe_op op_add (pv 5) pe_int)) (pv 6)) pa_nil))) pa_nil))))))
      (pss_one (ps_ret (pv 7)))))), ?_⟩
    -- the cell
    have cellB : ∀ z : Int, (z = 0 ∨ z ∈ ns) → bits z ≤ 1048576 := fun z hz => by
      rcases hz with rfl | hz
      · decide
      · exact hb z hz
    refine ⟨.ref a, rfl, .int b, rfl, a, ns, b, rfl, hS, b0, fun c hc => ?_⟩
    have bc := cellB c hc
    -- wide, step
    refine ⟨.int g, rfl, .int g, rfl, _, _, rfl, rfl, ⟨by decide, by decide⟩, (by show 4 ≤ sizeLine; decide), fun t ht => ?_⟩
    have s1 : Same H (upd H t (.tup [.int g, .int 3, .int (g / 2), .int 1])) := same_new ht
    refine ⟨.int c, rfl, c, 1, rfl, by omega, by decide, by decide, fun H2 z s2 => ?_⟩
    obtain ⟨v, e, hv⟩ := at_in (xs := [.int g, .int 3, .int (g / 2), .int 1]) (i := z % 4) (by omega) (by show z % 4 < 4; omega)
    obtain ⟨wide, rfl, hw⟩ : ∃ y : Int, v = .int y ∧ 0 ≤ y := by
      simp only [List.mem_cons, List.not_mem_nil, or_false] at hv
      rcases hv with rfl | rfl | rfl | rfl
      · exact ⟨_, rfl, by omega⟩
      · exact ⟨_, rfl, by omega⟩
      · exact ⟨_, rfl, by omega⟩
      · exact ⟨_, rfl, by omega⟩
    refine ⟨_, _, rfl, rfl, (by show (0 : Int) < 4; decide), t, _, _, _, rfl, rfl, SqT.of (s2 _ _ upd_same), e, ?_⟩
    refine ⟨(by show 4 ≤ sizeLine; decide), fun t2 ht2 => ?_⟩
    have s3 : Same H2 (upd H2 t2 (.tup [.int 1, .int 1, .int 2, .int 4])) := same_new ht2
    refine ⟨.int c, rfl, c, 1, rfl, by omega, by decide, by decide, fun H3 z3 s4 => ?_⟩
    obtain ⟨v, e, hv⟩ := at_in (xs := [.int 1, .int 1, .int 2, .int 4]) (i := z3 % 4) (by omega) (by show z3 % 4 < 4; omega)
    obtain ⟨stp, rfl, hs0, hs1⟩ : ∃ y : Int, v = .int y ∧ 0 ≤ y ∧ y ≤ 4 := by
      simp only [List.mem_cons, List.not_mem_nil, or_false] at hv
      rcases hv with rfl | rfl | rfl | rfl
      · exact ⟨_, rfl, by omega, by omega⟩
      · exact ⟨_, rfl, by omega, by omega⟩
      · exact ⟨_, rfl, by omega, by omega⟩
      · exact ⟨_, rfl, by omega, by omega⟩
    refine ⟨_, _, rfl, rfl, (by show (0 : Int) < 4; decide), t2, _, _, _, rfl, rfl, SqT.of (s4 _ _ upd_same), e, ?_⟩
    have s5 : Same H H3 := ((s1.trans s2).trans s3).trans s4
    refine ⟨_, _, rfl, Nat.zero_le _, fun o ho => ?_⟩
    have s6 : Same H (upd H3 o (.lst [])) := s5.trans (same_new ho)
    have hoH : H o = none := s5.free ho
    -- the loop
    refine ⟨.int c, rfl, c, 2, rfl, by omega, by decide, by decide, fun H4 z4 s7 => ?_⟩
    refine ⟨.int m, rfl, _, _, rfl, rfl, m0, _, _, rfl, rfl, ?_⟩
    have em0 : 0 ≤ z4 % m := Int.emod_nonneg _ (by omega)
    have em1 : z4 % m < m := Int.emod_lt_of_pos _ m0
    refine ⟨_, rfl, by omega, by omega, for_range
      (fun i σ H' => ∃ y8 y9 ms, σ = [some (.ref a), some (.int b), some (.int m), some (.int g), some (.int c), some (.int wide), some (.int stp), some (.ref o), y8, y9] ∧ Same H H' ∧ Lst H' o ms ∧ ms.length = i ∧ ∀ x ∈ ms, 0 ≤ x ∧ x ≤ g)
      ⟨none, none, [], rfl, s6.trans s7, s7 _ _ upd_same, rfl, by simp⟩ (fun i σ H5 hi h => ?_) (fun σ H5 h => ?_)⟩
    · obtain ⟨y8, y9, ms, rfl, s8, hL, hlen, hms⟩ := h
      have hi12 : i < 12 := by omega
      refine ⟨.ref a, rfl, .int b, rfl, .int (0 + (i : Int)), rfl, _, _, rfl, rfl, (by show (0 : Int) < 5; decide), _, _, rfl, rfl, a, ns, _, rfl, s8.seq hS, by omega, fun c5 hc5 => ?_⟩
      have bc5 := cellB c5 hc5
      refine ⟨.int (0 + (i : Int)), rfl, _, _, rfl, rfl, .inl ⟨by decide, by decide⟩, _, _, rfl, rfl, .int (0 + (i : Int)), rfl, _, _, rfl, rfl, (by show (0 : Int) < 6; decide), _, _, rfl, rfl, ?_⟩
      refine ⟨_, _, rfl, Nat.le_trans (bits_add bc5 (by omega) (by decide)) (by decide), by omega, by omega, fun H6 z6 s9 => ?_⟩
      refine ⟨_, _, rfl, rfl, ⟨by decide, by decide⟩, ?_⟩
      have hL6 := hL.mono s9
      refine ⟨.ref o, rfl, .inl ⟨rfl, _, SqL.of hL6⟩, .int g, rfl, _, rfl, .int wide, rfl, _, _, rfl, rfl, _, _, rfl, rfl, (by show (0 : Int) < wide + 1; omega), .int stp, rfl, _, _, rfl, rfl, .inr ⟨by omega, by omega⟩, _, _, rfl, ?_⟩
      have en : ∃ y : Int, (if z6 / 3 % (wide + 1) * stp < g then z6 / 3 % (wide + 1) * stp else g) = y ∧ 0 ≤ y ∧ y ≤ g := by
        have p0 : 0 ≤ z6 / 3 % (wide + 1) * stp := Int.mul_nonneg (Int.emod_nonneg _ (by omega)) hs0
        refine ⟨_, rfl, ?_, ?_⟩
        · split <;> omega
        · split <;> omega
      obtain ⟨y, ey, y0, y1⟩ := en
      rw [ey]
      refine ⟨o, _, _, rfl, rfl, hL6, small1000 (by rw [List.length_map]; omega), ?_⟩
      refine ⟨_, _, ms ++ [y], rfl, fun b' x e => ?_, ?_, by rw [List.length_append, hlen]; rfl, fun x hx => ?_⟩
      · rw [upd_ne (ne_of_none e hoH)]
        exact s9 _ _ (s8 _ _ e)
      · show upd H6 o (.lst (ms.map V.int ++ [.int y])) o = some (.lst ((ms ++ [y]).map V.int))
        rw [upd_same, List.map_append]
        rfl
      · rcases List.mem_append.mp hx with hx | hx
        · exact hms x hx
        · rw [List.mem_singleton.mp hx]
          exact ⟨y0, y1⟩
    · obtain ⟨y8, y9, ms, rfl, s8, hL, hlen, hms⟩ := h
      exact ⟨.ref o, rfl, q H5 o ms s8 hoH hL ⟨by omega, by omega, hms⟩⟩
/-! ### the evenings, otherwise -/
open Classical in
noncomputable def kOf (H : Hp) (x : V) : Pr := if h : ∃ p, IsP H x p then h.choose else (0, 0)
theorem IsP.inj {H : Hp} {x : V} {p q : Pr} (h : IsP H x p) (h' : IsP H x q) : p = q := by
  obtain ⟨t, rfl, e⟩ := h
  obtain ⟨t', e2, e3⟩ := h'
  cases e2
  rw [e] at e3
  have e4 := HO.tup.inj (Option.some.inj e3)
  have e5 := V.int.inj (List.cons.inj e4).1
  have e6 := V.int.inj (List.cons.inj (List.cons.inj e4).2).1
  exact Prod.ext e5 e6
theorem kOf_eq {H : Hp} {x : V} {p : Pr} (h : IsP H x p) : kOf H x = p := by
  unfold kOf
  rw [dif_pos ⟨p, h⟩]
  exact IsP.inj (Exists.choose_spec (⟨p, h⟩ : ∃ p, IsP H x p)) h
theorem prs_kOf {H : Hp} : ∀ {vs : List V} {ps : List Pr}, Prs H vs ps → vs.map (kOf H) = ps
  | _, _, .nil => rfl
  | _, _, .cons r t => by rw [List.map_cons, kOf_eq r, prs_kOf t]
theorem prs_of {H : Hp} : ∀ {vs : List V}, (∀ v ∈ vs, ∃ p, IsP H v p) → Prs H vs (vs.map (kOf H))
  | [], _ => .nil
  | v :: vs, h => by
    obtain ⟨p, hp⟩ := h v List.mem_cons_self
    refine .cons ?_ (prs_of fun u hu => h u (List.mem_cons_of_mem _ hu))
    rw [kOf_eq hp]
    exact hp
theorem cnO_len (ns : List Int) (j k : Nat) : (cnO ns j k).length ≤ k := by
  unfold cnO
  rw [List.length_map]
  exact Nat.le_trans (List.length_filter_le _ _) (by rw [List.length_range]; exact Nat.le_refl _)
theorem cnN_len (ns : List Int) : ∀ m, (cnN ns m).length ≤ m * m
  | 0 => Nat.zero_le _
  | m + 1 => by
    have ih := cnN_len ns m
    have h := cnO_len ns m m
    rw [cnN_succ, List.length_append, Nat.succ_mul, Nat.mul_succ]
    omega
def sp_can (K : PySem.W.Frag) : Sp := fun vs H Q _ => ∃ (a : Addr) (ns : List Int), vs = [.ref a] ∧ SqL K H a (ns.map V.int) ∧ ns.length ≤ 12 ∧
  ∀ H' p ws, Same H H' → H p = none → H' p = some (.lst ws) → Prs H' ws (evs ns) → Q (.ref p) H'
theorem ok_can {f : Addr} {fd : FuncData} (F : Fun K "_law_can" "_law_can" s_l_can f fd) (B : Blt mg) : FnOk P w K mg base CX0 1 f fd ["_law_row_here"] (sp_can K) := by
  refine F.ok sc_l_can (fun vs H Q E h => ?_) (fun cdv A outer s H vs Q E hr h => ?_)
  · obtain ⟨a, ns, rfl, _⟩ := h
    rfl
  · obtain ⟨a, ns, rfl, hS, hl, q⟩ := h
    refine ⟨_, pss_cons (ps_set (i := 1) sc_l_can.nd rfl (.inl rfl) (pe_lst pa_nil))
      (pss_cons (ps_for PassesOwn.never rfl (pi_range1 (by rfl) B.range (pa_cons (pe_callB call_len_seq (by rfl) B.len PySem.boot_len (pa_cons (pv 0) pa_nil)) pa_nil)) (pg_name (i := 2) sc_l_can.nd rfl (.inl rfl))
        (pss_one (ps_for PassesOwn.never rfl (pi_range1 (by rfl) B.range (pa_cons (pv 2) pa_nil)) (pg_name (i := 3) sc_l_can.nd rfl (.inl rfl))
          (pss_one (ps_if (PW.pt (pw_and (pt_cmpR op_ne (pe_ix ix_list (pv 0) (pv 3) (fun _ _ => rfl)) (pe_ix ix_list (pv 0) (pv 2) (fun _ _ => rfl)) (nomark _))
              (pw_and1 (pt_cmpR op_eq (pe_op op_mod (pe_ix ix_list (pv 0) (pv 3) (fun _ _ => rfl)) pe_int) (pe_op op_mod (pe_ix ix_list (pv 0) (pv 2) (fun _ _ => rfl)) pe_int) (nomark _)))))
            (pss_one (ps_expr (pe_bm PySem.F.plainAttrs_list PySem.F.slot_list_append PySem.F.type_list_append mt_append (pv 1) (pa_cons (pe_tup (pa_cons (pv 3) (pa_cons (pv 2) pa_nil))) pa_nil))))
            pss_nil)))))
      (pss_one (ps_ret (pe_callB cr_sortedPO (by rfl) B.sorted PyProof.Rows.boot_sorted (pa_cons (pv 1) pa_nil))))), ?_⟩
    refine ⟨Nat.zero_le _, fun o ho => ?_⟩
    have s0 : Same H (upd H o (.lst [])) := same_new ho
    have en : (((ns.map V.int).length : Int)).toNat = ns.length := by rw [List.length_map]; omega
    refine ⟨.ref a, rfl, a, _, rfl, .inl (s0.seq hS), _, rfl, by rw [List.length_map]; omega, by rw [List.length_map]; omega, for_range
      (fun j σ H' => ∃ y2 y3 ws, σ = [some (.ref a), some (.ref o), y2, y3] ∧ Same H H' ∧ H' o = some (.lst ws) ∧ Prs H' ws (cnN ns j))
      ⟨none, none, [], rfl, s0, upd_same, .nil⟩ (fun j σ H1 hj h => ?_) (fun σ H1 h => ?_)⟩
    · obtain ⟨y2, y3, ws, rfl, s1, h1, r1⟩ := h
      rw [en] at hj
      have ej : (0 + (j : Int)).toNat = j := by omega
      refine ⟨.int (0 + (j : Int)), rfl, _, rfl, by omega, by omega, for_range
        (fun i σ H' => ∃ y3 ws, σ = [some (.ref a), some (.ref o), some (.int (0 + (j : Int))), y3] ∧ Same H H' ∧ H' o = some (.lst ws) ∧ Prs H' ws (cnN ns j ++ cnO ns j i))
        ⟨y3, ws, rfl, s1, h1, by simpa [cnO] using r1⟩ (fun i σ H2 hi h => ?_) (fun σ H2 h => ?_)⟩
      · obtain ⟨y4, ws, rfl, s2, h2, r2⟩ := h
        rw [ej] at hi
        have hA := s2.seq hS
        have hin : i < ns.length := by omega
        have g1 : atI (ns.map V.int) (0 + (i : Int)) = some (.int (ns.getD i 0)) := at_of (by omega) (row_get hin)
        have g2 : atI (ns.map V.int) (0 + (j : Int)) = some (.int (ns.getD j 0)) := at_of (by omega) (row_get hj)
        have hlen : ws.length < sizeLine := by
          rw [r2.length, List.length_append]
          have l1 := cnN_len ns j
          have l2 := cnO_len ns j i
          have l3 : j * j ≤ 12 * 12 := Nat.mul_le_mul (by omega) (by omega)
          exact small1000 (by omega)
        refine ⟨.ref a, rfl, .int (0 + (i : Int)), rfl, a, _, _, _, rfl, rfl, hA, g1, .ref a, rfl, .int (0 + (j : Int)), rfl, a, _, _, _, rfl, rfl, hA, g2, rfl, _, rfl, ?_⟩
        rw [dec_int]
        by_cases c1 : ns.getD i 0 = ns.getD j 0
        · refine itN (by rw [decide_eq_true c1]; decide) (iteF ?_)
          refine ⟨_, ws, rfl, s2, h2, ?_⟩
          rw [cnO_succ, if_neg (by unfold goodP; rw [decide_eq_true c1]; simp), List.append_nil]
          exact r2
        · refine itP (by rw [decide_eq_false c1]; rfl) ?_
          refine ⟨.ref a, rfl, .int (0 + (i : Int)), rfl, a, _, _, _, rfl, rfl, hA, g1, _, _, rfl, rfl, (by show (0 : Int) < 2; decide), .ref a, rfl, .int (0 + (j : Int)), rfl, a, _, _, _, rfl, rfl, hA, g2, _, _, rfl, rfl, (by show (0 : Int) < 2; decide), rfl, _, rfl, ?_⟩
          rw [dec_int]
          by_cases c2 : ns.getD i 0 % 2 = ns.getD j 0 % 2
          · refine itP (decide_eq_true c2) ?_
            refine ⟨.ref o, rfl, .inl ⟨rfl, _, SqL.of h2⟩, .int (0 + (i : Int)), rfl, .int (0 + (j : Int)), rfl, (by show 2 ≤ sizeLine; decide), fun t ht => ?_⟩
            have st : Same H2 (upd H2 t (.tup [.int (0 + (i : Int)), .int (0 + (j : Int))])) := same_new ht
            refine ⟨o, ws, _, rfl, rfl, st _ _ h2, hlen, ?_⟩
            have sT : TupS H2 (upd (upd H2 t (.tup [.int (0 + (i : Int)), .int (0 + (j : Int))])) o (.lst (ws ++ [.ref t]))) := (Same.tups st).trans (tups_lst (st _ _ h2))
            refine ⟨_, _, rfl, fun b x e => ?_, upd_same, ?_⟩
            · rw [upd_ne (ne_of_none e ho)]
              exact st _ _ (s2 _ _ e)
            · have c3 : (ns.getD i 0 + ns.getD j 0) % 2 = 0 := by omega
              rw [cnO_succ, if_pos (by unfold goodP; rw [decide_eq_false c1, decide_eq_true c3]; rfl), ← List.append_assoc]
              refine prs_app (r2.mono sT) (.cons ⟨t, rfl, ?_⟩ .nil)
              have nt : t ≠ o := (ne_of_none h2 ht).symm
              rw [upd_ne nt, upd_same, show (0 : Int) + (i : Int) = ((i : Nat) : Int) by omega, show (0 : Int) + (j : Int) = ((j : Nat) : Int) by omega]
          · refine itN (by rw [decide_eq_false c2]; decide) ?_
            refine ⟨_, ws, rfl, s2, h2, ?_⟩
            have c3 : ¬ (ns.getD i 0 + ns.getD j 0) % 2 = 0 := by omega
            rw [cnO_succ, if_neg (by unfold goodP; rw [decide_eq_false c3]; simp), List.append_nil]
            exact r2
      · obtain ⟨y4, ws, rfl, s2, h2, r2⟩ := h
        rw [ej] at r2
        exact ⟨_, _, ws, rfl, s2, h2, by rw [cnN_succ]; exact r2⟩
    · obtain ⟨y2, y3, ws, rfl, s1, h1, r1⟩ := h
      rw [en] at r1
      refine ⟨.ref o, rfl, o, ws, kOf H1, rfl, SqL.of h1, fun x hx => ?_, fun ys p hs hst hp => ?_⟩
      · obtain ⟨pr, _, t, ex, et⟩ := prs_mem r1 hx
        exact ⟨t, ex, by rw [kOf_eq ⟨t, ex, et⟩]; exact et⟩
      · have sN : Same H1 (upd H1 p (.lst ys)) := same_new hp
        have py : Prs H1 ys (ys.map (kOf H1)) := prs_of fun v hv => by
          obtain ⟨pr, _, hpr⟩ := prs_mem r1 (hst.perm.mem_iff.mp hv)
          exact ⟨pr, hpr⟩
        have ey : ys.map (kOf H1) = evs ns := by
          refine evs_uniq ?_ ?_
          · rw [← prs_kOf r1]
            exact hst.perm.map _
          · rw [List.pairwise_map]
            refine hs.imp fun {x y} h h2 => ?_
            have h3 : ltP (kOf H1) y x = true := SrtO.lexB_iff.mpr h2
            exact absurd (h.symm.trans h3) (by decide)
        rw [ey] at py
        exact q _ p ys (s1.trans sN) (s1.free hp) upd_same (py.mono (Same.tups sN))
/-! ### the row behind, otherwise -/
def sp_l_evened (K : PySem.W.Frag) : Sp := fun vs H Q _ => ∃ (a e : Addr) (ns : List Int) (p : Pr), vs = [.ref a, .ref e] ∧ SqL K H a (ns.map V.int) ∧ H e = some (.tup [.int p.1, .int p.2]) ∧ p ∈ evs ns ∧ ns.length ≤ 12 ∧
  ∀ H' o, Same H H' → H o = none → Lst H' o (behP ns p) → Q (.ref o) H'
theorem ok_l_evened {f : Addr} {fd : FuncData} (F : Fun K "_law_evened" "_law_evened" s_l_evened f fd) (B : Blt mg) : FnOk P w K mg base CX0 1 f fd ["_law_row_here", "_law_pair"] (sp_l_evened K) := by
  refine F.ok sc_l_evened (fun vs H Q E h => ?_) (fun cdv A outer s H vs Q E hr h => ?_)
  · obtain ⟨a, e, ns, p, rfl, _⟩ := h
    rfl
  · obtain ⟨a, e, ns, p, rfl, hS, hT, hp, hl, q⟩ := h
    refine ⟨_, pss_cons (ps_set (i := 2) sc_l_evened.nd rfl (.inl rfl) (pe_callTy call_list_of (by rfl) B.list PyProof.Rows.boot_list (pa_cons (pv 0) pa_nil)))
      (pss_cons (ps_asg (pe_op op_fdiv (pe_op op_add (pe_ix ix_list (pv 0) (pe_ix ix_tup (pv 1) pe_int (fun _ _ => rfl)) (fun _ _ => rfl)) (pe_ix ix_list (pv 0) (pe_ix ix_tup (pv 1) pe_int (fun _ _ => rfl)) (fun _ _ => rfl))) pe_int)
        (pg_sub (pv 2) (pe_ix ix_tup (pv 1) pe_int (fun _ _ => rfl)) set_list))
      (pss_cons (ps_asg (pe_ix ix_list (pv 2) (pe_ix ix_tup (pv 1) pe_int (fun _ _ => rfl)) (fun _ _ => rfl)) (pg_sub (pv 2) (pe_ix ix_tup (pv 1) pe_int (fun _ _ => rfl)) set_list))
      (pss_one (ps_ret (pv 2))))), ?_⟩
    obtain ⟨i, j, ep, hij, hj, hg⟩ := mem_evs.mp hp
    subst ep
    have hi : i < ns.length := by omega
    refine ⟨.ref a, rfl, a, _, rfl, .inl hS, fun o ho => ?_⟩
    have s1 : Same H (upd H o (.lst (ns.map V.int))) := same_new ho
    have hA := s1.seq hS
    have hT1 := s1 _ _ hT
    have no : e ≠ o := ne_of_none hT ho
    have g1 : atI (ns.map V.int) (i : Int) = some (.int (ns.getD i 0)) := atI_nat (row_get hi)
    have g2 : atI (ns.map V.int) (j : Int) = some (.int (ns.getD j 0)) := atI_nat (row_get hj)
    have ix : ∀ {xs : List V} {k : Nat}, k < xs.length → ixN xs.length (k : Int) = some k := fun {xs k} h => by
      unfold ixN
      rw [if_pos (by omega), if_pos (by omega)]; simp
    refine ⟨.ref a, rfl, .ref e, rfl, e, _, 0, .int (i : Int), rfl, rfl, SqT.of hT1, rfl, a, _, _, _, rfl, rfl, hA, g1, .ref a, rfl, .ref e, rfl, e, _, 1, .int (j : Int), rfl, rfl, SqT.of hT1, rfl, a, _, _, _, rfl, rfl, hA, g2, _, _, rfl, rfl, _, _, rfl, rfl, ⟨by decide, by decide⟩, ?_⟩
    refine ⟨.ref o, rfl, .ref e, rfl, e, _, 0, .int (i : Int), rfl, rfl, SqT.of hT1, rfl, o, _, _, i, rfl, rfl, upd_same, ix (by rw [List.length_map]; exact hi), ?_⟩
    rw [upd_upd]
    have hT2 : ∀ z, (upd H o z) e = some (.tup [.int (i : Int), .int (j : Int)]) := fun z => by rw [upd_ne no]; exact hT
    have e1 : (ns.map V.int).set i (.int ((ns.getD i 0 + ns.getD j 0) / 2)) = (ns.set i (half ns i j)).map V.int := by rw [List.map_set]; rfl
    rw [e1]
    have g3 : atI ((ns.set i (half ns i j)).map V.int) (i : Int) = some (.int (half ns i j)) := atI_nat (by rw [List.getElem?_map, List.getElem?_set_self (by exact hi)]; rfl)
    refine ⟨.ref o, rfl, .ref e, rfl, e, _, 0, .int (i : Int), rfl, rfl, SqT.of (hT2 _), rfl, o, _, _, _, rfl, rfl, SqL.of upd_same, g3, ?_⟩
    refine ⟨.ref o, rfl, .ref e, rfl, e, _, 1, .int (j : Int), rfl, rfl, SqT.of (hT2 _), rfl, o, _, _, j, rfl, rfl, upd_same, ix (by rw [List.length_map, List.length_set]; exact hj), ?_⟩
    rw [upd_upd]
    have e2 : ((ns.set i (half ns i j)).map V.int).set j (.int (half ns i j)) = (beh ns i j).map V.int := by rw [← beh_set, List.map_set (l := ns.set i (half ns i j))]
    rw [e2]
    exact ⟨.ref o, rfl, q _ o (same_new ho) ho upd_same⟩
end
end EG

namespace EG
open PySem L2
section
variable {P : Program} {w : World} {K : PySem.W.Frag} {mg : Str → Option Value} {base : Heap}
def sp_l_whole (K : PySem.W.Frag) : Sp := fun vs H Q _ => ∃ (x : V) (b : Bool), vs = [x] ∧ Whole K H x b ∧ Q (.bl b) H
theorem ok_l_whole {f : Addr} {fd : FuncData} (F : Fun K "_law_whole" "_law_whole" s_l_whole f fd) (B : Blt mg) : FnOk P w K mg base CX0 1 f fd ["_law_number"] (sp_l_whole K) := by
  refine F.ok sc_l_whole (fun vs H Q E h => ?_) (fun cdv A outer s H vs Q E hr h => ?_)
  · obtain ⟨x, b, rfl, _⟩ := h
    rfl
  · obtain ⟨x, b, rfl, ⟨t, b1, b2, ht, h1, h2, rfl⟩, q⟩ := h
    refine ⟨_, pss_one (ps_ret (pe_and (pe_callB call_isi (by rfl) B.isi PyProof.Rows.boot_isinstance (pa_cons (pv 0) (pa_cons (pe_bltn (v := .ty "int") (by rfl) B.int PyProof.Rows.boot_int rfl) pa_nil)))
      (pe_one (pe_not (pe_callB call_isi (by rfl) B.isi PyProof.Rows.boot_isinstance (pa_cons (pv 0) (pa_cons (pe_bltn (v := .ty "bool") (by rfl) B.bool PyProof.Rows.boot_bool rfl) pa_nil))))))), ?_⟩
    refine ⟨x, rfl, _, _, _, _, b1, rfl, .ty _, ht, h1, b1, rfl, ?_⟩
    cases b1 with
    | false => exact iteF q
    | true => exact iteT ⟨x, rfl, _, _, _, _, b2, rfl, .ty _, ht, h2 rfl, b2, rfl, q⟩
end
end EG

/-! {key: value} of one pair, the key a tuple. -/
namespace EG
open PySem PySem.Spec PyProof.Rows L2
def tDispT (tk tv : TE) : TE := fun σ H Q => ∀ p, H p = none → tk σ (upd H p (.dT [])) fun x H1 => tv σ H1 fun y H2 =>
  ∃ (b : Addr) (k : List Key), x = .ref b ∧ H2 p = some (.dT []) ∧ H2 b = some (.tup (k.map kV)) ∧ Q (.ref p) (upd H2 p (.dT [(k, y)]))
section
variable {X : Cx}
theorem pe_dispT {k v : Expr} {tk tv : TE} {pos : Pos} (hu : X.A.units + 1 < cLine) (hk : PE X k tk) (hv : PE X v tv) : PE X (.Dict [some k] [v] pos) (tDispT tk tv) := by
  refine ⟨fun pins s σ H Q I q => ?_⟩
  have fr := I.hok.fresh (Nat.le_refl s.heap.objs.size)
  have IA := I.laid (a := s.heap.objs.size) (o := .dT []) (h' := s.heap.push { cls := .type "dict", data := .dict #[] }) (t' := s.toks) (fun _ _ z => Heap.get?_push_of_some _ z) (Nat.le_refl _) (dt_empty s.heap I.big)
  rw [arm_eval_Dict, zip_pairTrees [some k] [v] X.env pos rfl rfl, dictDisplay_pairs (pairTrees [some k] [v] X.env pos) (by simp [pairTrees]) (by simp [pairTrees])]
  refine wpAny_bind (wpAny_standAt (wpAny_bind (wpAny_subDictH (knd := tupleKind (mixKind X.prog X.w)) (Q := fun d s' => wpAny (model X.prog X.w) X.A (pure (Value.ref d)) (EP X pins σ Q) X.xe s') (show X.A.units < cLine by omega) (by simp [pairTrees]) ?_)))
  refine pairTrees_cons_walk (thn (hk.run pins _ σ _ _ IA (q _ fr)) fun u sA ⟨x, HA, IB, rx, qA⟩ => thn (hv.run pins sA σ HA _ IB qA) fun z sB ⟨y, HB, IC, ry, b, ks, ex, e, eb, qB⟩ => pairTrees_nil_walk ?_)
  subst ex
  cases rx
  obtain ⟨_, hd, xs, rel, dd⟩ := dt_of IC.hok e
  cases rel
  refine ⟨[(ks, b, z)], ⟨rfl, rfl, key_of IC.hok eb, trivial⟩, dd, fun hN tN dN hs => wpAny_pure ⟨.ref s.heap.objs.size, _, ?_, rfl, qB⟩⟩
  obtain ⟨o, es, ep, hq, h2, h3, h4, _, h5⟩ := dN
  refine d_write IC (by rw [e]; exact True.intro) hs ⟨o, hq⟩ ⟨by show 1 ≤ sizeLine; decide, hd, [(ks, b, z)], .cons ⟨rfl, ?_, ry⟩ .nil, o, es, ep, hq, h2, h3, h4, h5⟩
  rw [upd_ne (ne_of eb e (fun w => nomatch w))]
  exact eb
end
end EG

/-! Dicts whose keys are rows; lists of rows. -/
namespace EG
open PySem L2
def rowKey (r : Rw) : List Key := r.map Sum.inl
theorem rowKey_V (r : Rw) : (rowKey r).map kV = r.map V.int := by unfold rowKey; rw [List.map_map]; rfl
theorem rowKey_inj {r q : Rw} (h : rowKey r = rowKey q) : r = q := by
  unfold rowKey at h
  exact (List.map_inj_right fun a b e => Sum.inl.inj e).mp h
def dRows (ks : List Rw) : List (List Key × V) := ks.map fun r => (rowKey r, V.bl true)
theorem dRows_length (ks : List Rw) : (dRows ks).length = ks.length := List.length_map ..
theorem val_dRows (r : Rw) : ∀ ks : List Rw, (valV (dRows ks) (rowKey r)).isSome = decide (r ∈ ks)
  | [] => rfl
  | k :: ks => by
    have ih := val_dRows r ks
    by_cases e : k = r
    · subst e
      rw [show dRows (k :: ks) = (rowKey k, V.bl true) :: dRows ks from rfl, valV_pos rfl]
      simp
    · have e2 : ¬ (rowKey k, V.bl true).1 = rowKey r := fun z => e (rowKey_inj z)
      have e3 : ¬ r = k := fun z => e z.symm
      rw [show dRows (k :: ks) = (rowKey k, V.bl true) :: dRows ks from rfl, valV_neg e2, ih]
      simp [e3]
theorem put_dRows (ks : List Rw) (r : Rw) : putK (dRows ks) (rowKey r) (V.bl true) = dRows (ins ks r) := by
  unfold ins
  by_cases c : r ∈ ks
  · rw [if_pos c]
    unfold putK
    rw [valV_any, val_dRows, decide_eq_true c, if_pos rfl]
    unfold dRows
    rw [List.map_map]
    refine List.map_congr_left fun q _ => ?_
    show (if rowKey q = rowKey r then (rowKey q, V.bl true) else (rowKey q, V.bl true)) = _
    split <;> rfl
  · rw [if_neg c, putK_new]
    · unfold dRows; rw [List.map_append]; rfl
    · have h := val_dRows r ks
      rw [decide_eq_false c] at h
      cases e : valV (dRows ks) (rowKey r) with
      | none => rfl
      | some v => rw [e] at h; cases h
theorem get_dRows {ks : List Rw} {i : Nat} {k : List Key} {v : V} (h : (dRows ks)[i]? = some (k, v)) : ∃ r, ks[i]? = some r ∧ k = rowKey r := by
  unfold dRows at h
  rw [List.getElem?_map] at h
  cases e : ks[i]? with
  | none => rw [e] at h; cases h
  | some r => rw [e] at h; cases h; exact ⟨r, rfl, rfl⟩
/-- a comprehension over a dict's tuple keys -/
theorem lc_keysT {d : Addr} {od : Obj} {kvs : List (List Key × V)} {g : TG} {tt : TT} {te : TE} {vs : List Nat} {σ : St} {H1 : Hp} {D : Addr} {Qd : Hp → Prop} (Pv : Nat → Hp → Prop) (h0 : Pv 0 (upd H1 D (.lst [])))
    (hl : ∀ i H, Pv i H → H d = some (.frz od (.dT kvs)))
    (hs : ∀ (i : Nat) (k : List Key) (v : V) (q : Addr) (H : Hp), kvs[i]? = some (k, v) → H q = some (.tup (k.map kV)) → Pv i H → g (.ref q) (wipe σ vs) H fun σ2 H2 => wipe σ2 vs = wipe σ vs ∧ tt σ2 H2 fun b H3 =>
      if b = true then te σ2 H3 fun y H4 => ∃ acc, H4 D = some (.lst acc) ∧ acc.length < sizeLine ∧ Pv (i + 1) (upd H4 D (.lst (acc ++ [y]))) else Pv (i + 1) H3) (hd : ∀ H, Pv kvs.length H → Qd H) :
    ∃ W : Nat → Nat → Hp → Prop, (∃ m, W 0 m (upd H1 D (.lst []))) ∧ ∀ i m H, W i m H →
      ((Itkt d od kvs).stop i H ∧ Qd H) ∨ ((Itkt d od kvs).go i H ∧ ∃ Nx : Hp → Prop, (∀ H', Nx H' → ∃ m', m' < m ∧ W (i + 1) m' H') ∧ ∀ x H', (Itkt d od kvs).yld i H x H' → g x (wipe σ vs) H' fun σ2 H2 => wipe σ2 vs = wipe σ vs ∧ tt σ2 H2 fun b H3 =>
        if b = true then te σ2 H3 fun y H4 => ∃ acc, H4 D = some (.lst acc) ∧ acc.length < sizeLine ∧ Nx (upd H4 D (.lst (acc ++ [y]))) else Nx H3) := by
  refine ⟨fun i m H => m = kvs.length - i ∧ i ≤ kvs.length ∧ Pv i H, ⟨kvs.length, by omega, Nat.zero_le _, h0⟩, ?_⟩
  rintro i m H ⟨rfl, hi, p⟩
  have hdo := hl i H p
  by_cases c : i < kvs.length
  · refine .inr ⟨⟨hdo, c⟩, Pv (i + 1), fun H' z => ⟨kvs.length - (i + 1), by omega, rfl, c, z⟩, fun x H' y => ?_⟩
    obtain ⟨rfl, k, v, q, ek, rfl, eq⟩ := y
    exact hs i k v q _ ek eq p
  · have e : i = kvs.length := by omega
    subst e
    exact .inl ⟨⟨hdo, Nat.le_refl _⟩, hd H p⟩
/-! ### lists that stand -/
def Lsts (H H' : Hp) : Prop := ∀ b xs, H b = some (.lst xs) → H' b = some (.lst xs)
theorem Same.lsts {H H' : Hp} (s : Same H H') : Lsts H H' := fun b xs h => s b _ h
theorem Lsts.refl (H : Hp) : Lsts H H := fun _ _ h => h
theorem Lsts.trans {H H1 H2 : Hp} (a : Lsts H H1) (b : Lsts H1 H2) : Lsts H H2 := fun c xs h => b c xs (a c xs h)
theorem lsts_dT {H : Hp} {p : Addr} {kvs : List (List Key × V)} {o : HO} (h : H p = some (.dT kvs)) : Lsts H (upd H p o) := fun b ys e => by
  rw [upd_ne (ne_of e h (by intro z; cases z))]; exact e
theorem lsts_frz {H : Hp} {p : Addr} {u : Obj} {z : HO} {o : HO} (h : H p = some (.frz u z)) : Lsts H (upd H p o) := fun b ys e => by
  rw [upd_ne (ne_of e h (by intro z; cases z))]; exact e
theorem tups_dT {H : Hp} {p : Addr} {kvs : List (List Key × V)} {o : HO} (h : H p = some (.dT kvs)) : TupS H (upd H p o) := fun b ys e => by
  rw [upd_ne (ne_of e h (by intro z; cases z))]; exact e
theorem tups_frz {H : Hp} {p : Addr} {u : Obj} {z : HO} {o : HO} (h : H p = some (.frz u z)) : TupS H (upd H p o) := fun b ys e => by
  rw [upd_ne (ne_of e h (by intro z; cases z))]; exact e
/-- a heap without some addresses -/
def hid (H : Hp) (xs : List Addr) : Hp := fun b => if b ∈ xs then none else H b
theorem hid_in {H : Hp} {xs : List Addr} {b : Addr} (h : b ∈ xs) : hid H xs b = none := if_pos h
theorem hid_out {H : Hp} {xs : List Addr} {b : Addr} (h : b ∉ xs) : hid H xs b = H b := if_neg h
theorem hid_same (H : Hp) (xs : List Addr) : Same (hid H xs) H := fun b o e => by
  unfold hid at e
  split at e
  · cases e
  · exact e
theorem hid_mono {H H' : Hp} {xs : List Addr} (s : Same H H') : Same (hid H xs) (hid H' xs) := fun b o e => by
  unfold hid at e ⊢
  split at e
  · cases e
  · rename_i c
    rw [if_neg c]
    exact s _ _ e
theorem hid_lsts {H H' : Hp} {xs : List Addr} (s : Lsts H H') : Lsts (hid H xs) (hid H' xs) := fun b o e => by
  unfold hid at e ⊢
  split at e
  · cases e
  · rename_i c
    rw [if_neg c]
    exact s _ _ e
theorem hid_upd {H : Hp} {xs : List Addr} {a : Addr} {o : HO} (h : a ∈ xs) : hid (upd H a o) xs = hid H xs := by
  funext b
  unfold hid
  split
  · rfl
  · rename_i c
    exact upd_ne fun e => c (by rw [e]; exact h)
theorem hid_less {H : Hp} {xs ys : List Addr} (h : ∀ a ∈ xs, a ∈ ys) : Same (hid H ys) (hid H xs) := fun b o e => by
  unfold hid at e ⊢
  split at e
  · cases e
  · rename_i c
    rw [if_neg fun z => c (h b z)]
    exact e
/-- a value that is a row; a list of rows -/
def IsRow (H : Hp) (v : V) (r : Rw) : Prop := ∃ b, v = .ref b ∧ Lst H b r
abbrev Rows (H : Hp) : List V → List Rw → Prop := Paired (IsRow H)
def IsLv (H : Hp) (v : V) (L : List Rw) : Prop := ∃ b ws, v = .ref b ∧ H b = some (.lst ws) ∧ Rows H ws L
abbrev Lvs (H : Hp) : List V → List (List Rw) → Prop := Paired (IsLv H)
theorem IsRow.mono {H H' : Hp} (s : Lsts H H') {v : V} {r : Rw} (h : IsRow H v r) : IsRow H' v r := by
  obtain ⟨b, e, h⟩ := h
  exact ⟨b, e, s _ _ h⟩
theorem Rows.mono {H H' : Hp} (s : Lsts H H') {vs : List V} {L : List Rw} (h : Rows H vs L) : Rows H' vs L := Paired.mapP h fun _ _ q => q.mono s
theorem IsLv.mono {H H' : Hp} (s : Lsts H H') {v : V} {L : List Rw} (h : IsLv H v L) : IsLv H' v L := by
  obtain ⟨b, ws, e, h, r⟩ := h
  exact ⟨b, ws, e, s _ _ h, r.mono s⟩
theorem Lvs.mono {H H' : Hp} (s : Lsts H H') {vs : List V} {L : List (List Rw)} (h : Lvs H vs L) : Lvs H' vs L := Paired.mapP h fun _ _ q => q.mono s
theorem pd_app {α β : Type} {F : α → β → Prop} : ∀ {vs ws : List α} {ps qs : List β}, Paired F vs ps → Paired F ws qs → Paired F (vs ++ ws) (ps ++ qs)
  | _, _, _, _, .nil, h => h
  | _, _, _, _, .cons r t, h => .cons r (pd_app t h)
theorem pd_at {α β : Type} {F : α → β → Prop} : ∀ {vs : List α} {ps : List β} {i : Nat} {v : α}, Paired F vs ps → vs[i]? = some v → ∃ p, ps[i]? = some p ∧ F v p
  | _, _, _, _, .nil, e => by simp at e
  | _, _, 0, _, .cons r _, e => by simp at e; subst e; exact ⟨_, rfl, r⟩
  | _, _, i + 1, v, .cons _ t, e => by
    obtain ⟨p, h1, h2⟩ := pd_at (i := i) (v := v) t (by simpa using e)
    exact ⟨p, by simpa using h1, h2⟩
theorem pd_len {α β : Type} {F : α → β → Prop} {vs : List α} {ps : List β} (h : Paired F vs ps) : vs.length = ps.length := Paired.length h
end EG

/-! The law's levels. -/
namespace EG
open PySem L2
section
variable {P : Program} {w : World} {K : PySem.W.Frag} {mg : Str → Option Value} {base : Heap}
def sp_levels (K : PySem.W.Frag) : Sp := fun vs H Q _ => ∃ (a : Addr) (ns : List Int), vs = [.ref a] ∧ SqL K H a (ns.map V.int) ∧ Small ns ∧
  ∀ H' p zs n, Same H H' → H p = none → H' p = some (.lst zs) → Lvs H' zs ((List.range n).map (lev ns)) → lev ns n = [] → (∀ i < n, lev ns i ≠ []) → Q (.ref p) H'
abbrev N_l_levels : List Str := ["_law_row_here", "_law_levels_here", "_law_line", "_law_more", "_law_some", "_law_pair"]
theorem ok_levels {f : Addr} {fd : FuncData} (F : Fun K "_law_levels" "_law_levels" s_l_levels f fd) (B : Blt mg) (c_l_can : Cal CX0 P w K mg base "_law_can" ["_law_row_here"] 1 (sp_can K))
    (c_l_evened : Cal CX0 P w K mg base "_law_evened" ["_law_row_here", "_law_pair"] 1 (sp_l_evened K)) : FnOk P w K mg base CX0 2 f fd ["_law_row_here"] (sp_levels K) := by
  refine F.ok sc_l_levels (fun vs H Q E h => ?_) (fun cdv A outer s H vs Q E hr h => ?_)
  · obtain ⟨a, ns, rfl, _⟩ := h
    rfl
  · obtain ⟨a, ns, rfl, hS, ok, q⟩ := h
    refine ⟨_, (pss_cons (ps_par (i := 1) (j := 2) rfl sc_l_levels.nd rfl rfl (by decide) rfl rfl (pa_cons (pe_lst pa_nil) (pa_cons (pe_dispT (hu_of hr) (pe_callTy (r := rTupOf K) call_tuple_of (by rfl) B.tuple PyProof.Rows.boot_tuple (pa_cons (pv 0) pa_nil)) pe_bl) pa_nil)) (by rfl))
    (pss_cons (ps_while PassesOwn.never (pt_cmpR op_gt (pe_callB call_len_dT (by rfl) B.len PySem.boot_len (pa_cons (pv 2) pa_nil)) pe_int (nomark _))
    (pss_cons (ps_expr (pe_bm PySem.F.plainAttrs_list PySem.F.slot_list_append PySem.F.type_list_append mt_append (pv 1) (pa_cons (pe_lock (pe_lc (own := [("_law_some", 4)]) (g := gName 4) (tt := tYes) rfl sc_l_levels.nd (pi_keys (pv 2)) (blkOk_by (N := N_l_levels) (sc := defScope s_l_levels) (by decide +kernel)) (fun _ _ _ _ _ => (pg_name (i := 4) sc_l_levels.nd rfl (.inl rfl))) (fun _ _ _ _ _ => pts_nil) (fun _ _ _ _ _ => (pe_callTy (r := rListOf K) call_list_of (by rfl) B.list PyProof.Rows.boot_list (pa_cons (pv 4) pa_nil))))) pa_nil)))
      (pss_cons (ps_set (i := 3) sc_l_levels.nd rfl (.inl rfl) pe_dnewT)
      (pss_cons (ps_for PassesOwn.never rfl (pi_list (pe_ix (r := rIxL K) ix_list (pv 1) (pe_un un_neg pe_int) (fun _ _ => rfl))) (pg_name (i := 4) sc_l_levels.nd rfl (.inl rfl))
      (pss_one (ps_for PassesOwn.never rfl (pi_list (pe_cal c_l_can hr (by rfl) (pa_cons (pv 4) pa_nil))) (pg_name (i := 5) sc_l_levels.nd rfl (.inl rfl))
        (pss_one (ps_dput (hu_of hr) (pv 3) (pe_callTy (r := rTupOf K) call_tuple_of (by rfl) B.tuple PyProof.Rows.boot_tuple (pa_cons (pe_cal c_l_evened hr (by rfl) (pa_cons (pv 4) (pa_cons (pv 5) pa_nil))) pa_nil)) pe_bl rfl)))))
      (pss_one (ps_set (i := 2) sc_l_levels.nd rfl (.inl rfl) (pv 3)))))))
    (pss_one (ps_ret (pv 1))))), ?_⟩
    have l12 := ok.row12
    refine ⟨Nat.zero_le _, fun lv hlv => ?_⟩
    have s1 : Same H (upd H lv (.lst [])) := same_new hlv
    refine fun ln hln => ?_
    have s2 : Same (upd H lv (.lst [])) (upd (upd H lv (.lst [])) ln (.dT [])) := same_new hln
    refine ⟨.ref a, rfl, a, _, rfl, .inl ⟨(s1.trans s2).seq hS, fun t ht => ?_⟩⟩
    have s3 : Same (upd (upd H lv (.lst [])) ln (.dT [])) (upd (upd (upd H lv (.lst [])) ln (.dT [])) t (.tup (ns.map V.int))) := same_new ht
    have hlnH : H ln = none := s1.free hln
    have nll : lv ≠ ln := (ne_of_none (show (upd H lv (.lst [])) lv = some (.lst []) from upd_same) hln)
    refine ⟨t, rowKey ns, rfl, s3 _ _ upd_same, by rw [rowKey_V]; exact upd_same, _, _, rfl, ?_⟩
    -- the loop
    refine ⟨fun m σ H' => ∃ n zs ln y3 y4 y5, n + m = (sq ns).toNat + 1 ∧ σ = [some (.ref a), some (.ref lv), some (.ref ln), y3, y4, y5] ∧ Same H H' ∧ H' lv = some (.lst zs) ∧ H' ln = some (.dT (dRows (lev ns n))) ∧
        Lvs (hid H' [lv]) zs ((List.range n).map (lev ns)) ∧ H ln = none ∧ ∀ i < n, lev ns i ≠ [], ⟨(sq ns).toNat + 1, 0, [], ln, none, none, none, by omega, rfl, ?_, ?_, ?_, .nil, hlnH, fun i hi => absurd hi (by omega)⟩, fun m σ H1 h => ?_⟩
    · exact same_upd2 ((s1.trans s2).trans s3) hlnH
    · rw [upd_ne nll]
      exact s3 _ _ (s2 _ _ upd_same)
    · rw [upd_same]
      rfl
    · obtain ⟨n, zs, ln, y3, y4, y5, em, rfl, sA, hlvA, hlnA, lvA, hlnH, hne⟩ := h
      have cnt := lev_count ok n
      refine ⟨.ref ln, rfl, ln, _, rfl, hlnA, _, _, rfl, rfl, _, rfl, ite2 (fun c => ?_) (fun c => ?_)⟩
      · -- one more level
        have c1 : 0 < (lev ns n).length := by
          have := of_decide_eq_true c
          rw [dRows_length] at this
          omega
        have c2 : lev ns n ≠ [] := fun z => by rw [z] at c1; exact absurd c1 (by decide)
        have hnb : n ≤ (sq ns).toNat := by
          apply Classical.byContradiction
          intro z
          exact c2 (lev_end ns (by omega))
        refine ⟨fun σ' H' => ∃ zs ln y3 y4 y5, σ' = [some (.ref a), some (.ref lv), some (.ref ln), y3, y4, y5] ∧ Same H H' ∧ H' lv = some (.lst zs) ∧ H' ln = some (.dT (dRows (lev ns (n + 1)))) ∧
            Lvs (hid H' [lv]) zs ((List.range (n + 1)).map (lev ns)) ∧ H ln = none, fun σ' H' h => ?_, ?_⟩
        · obtain ⟨zs, ln, y3, y4, y5, rfl, g1, g2, g3, g4, g5⟩ := h
          refine ⟨m - 1, by omega, n + 1, zs, ln, y3, y4, y5, by omega, rfl, g1, g2, g3, g4, g5, fun i hi => ?_⟩
          by_cases e : i = n
          · rw [e]; exact c2
          · exact hne i (by omega)
        -- levels.append([..])
        have nlv : ln ≠ lv := (ne_of hlnA hlvA (by intro z; cases z))
        refine ⟨.ref lv, rfl, .inl ⟨rfl, _, SqL.of hlvA⟩, ln, _, hlnA, trivial, fun od => ?_⟩
        have hfz : (upd H1 ln (.frz od (.dT (dRows (lev ns n))))) ln = some (.frz od (.dT (dRows (lev ns n)))) := upd_same
        have hlv1 : (upd H1 ln (.frz od (.dT (dRows (lev ns n))))) lv = some (.lst zs) := by rw [upd_ne nlv.symm]; exact hlvA
        have ls1 : Lsts H1 (upd H1 ln (.frz od (.dT (dRows (lev ns n))))) := lsts_dT hlnA
        have s4 : Same H (upd H1 ln (.frz od (.dT (dRows (lev ns n))))) := same_upd2 sA hlnH
        have lv1 := lvA.mono (hid_lsts (xs := [lv]) ls1)
        have hold : ∀ b o, (upd H1 ln (.frz od (.dT (dRows (lev ns n))))) b = some o → b ≠ ln → H1 b = some o := fun b o e nb => by rw [upd_ne nb] at e; exact e
        generalize upd H1 ln (.frz od (.dT (dRows (lev ns n)))) = HL at hfz hlv1 s4 lv1 hold
        refine ⟨.ref ln, rfl, ln, od, rfl, .inr ⟨_, hfz, fun D hD => ?_⟩⟩
        have nD : D ≠ lv := (ne_of_none hlv1 hD).symm
        have nD2 : D ≠ ln := (ne_of_none hfz hD).symm
        refine lc_keysT (d := ln) (od := od) (kvs := dRows (lev ns n)) (fun i H' => Same HL H' ∧ ∃ ws, H' D = some (.lst ws) ∧ Rows (hid H' [lv, D]) ws ((lev ns n).take i))
          ⟨same_new hD, [], upd_same, .nil⟩ (fun i H' h => h.1 _ _ hfz) (fun i k v qa H2 hk hq h => ?_) (fun H2 h => ?_)
        · obtain ⟨r, hr, rfl⟩ := get_dRows hk
          obtain ⟨s5, ws, hDw, rw'⟩ := h
          rw [rowKey_V] at hq
          refine ⟨rfl, iteT (B := True) ⟨.ref qa, rfl, qa, _, rfl, .inr (SqT.of hq), fun l hl => ?_⟩⟩
          have s6 : Same H2 (upd H2 l (.lst (r.map V.int))) := same_new hl
          have nl1 : l ≠ lv := (ne_of_none (s5 _ _ hlv1) hl).symm
          have nl2 : l ≠ D := (ne_of_none hDw hl).symm
          refine ⟨ws, s6 _ _ hDw, lineB (by rw [pd_len rw', List.length_take]; omega), same_upd2 (s5.trans s6) hD, _, upd_same, ?_⟩
          rw [hid_upd (by simp), List.take_add_one, hr]
          refine pd_app (rw'.mono (Same.lsts (hid_mono s6))) (.cons ⟨l, rfl, ?_⟩ .nil)
          unfold Lst
          rw [hid_out (by simp [nl1, nl2]), upd_same]
        · obtain ⟨s5, ws, hDw, rw'⟩ := h
          rw [dRows_length, List.take_length] at rw'
          refine ⟨s5 _ _ hfz, ?_⟩
          have ls2 : Lsts H2 (upd H2 ln (.dT (dRows (lev ns n)))) := lsts_frz (s5 _ _ hfz)
          have hlv2 := ls2 _ _ (s5 _ _ hlv1)
          have hD2 := ls2 _ _ hDw
          have hln2 : (upd H2 ln (.dT (dRows (lev ns n)))) ln = some (.dT (dRows (lev ns n))) := upd_same
          have s6 : Same H (upd H2 ln (.dT (dRows (lev ns n)))) := same_upd2 (s4.trans s5) hlnH
          have lv2 := lv1.mono ((Same.lsts (hid_mono s5)).trans (hid_lsts (xs := [lv]) ls2))
          have rw2 := rw'.mono (hid_lsts (xs := [lv, D]) ls2)
          generalize upd H2 ln (.dT (dRows (lev ns n))) = H3 at hlv2 hD2 hln2 s6 lv2 rw2
          have lz : zs.length = n := by rw [pd_len lv2, List.length_map, List.length_range]
          have nsq := ok.sq
          refine ⟨lv, zs, _, rfl, rfl, hlv2, lineB (by omega), ?_⟩
          have hlv3 : (upd H3 lv (.lst (zs ++ [.ref D]))) lv = some (.lst (zs ++ [.ref D])) := upd_same
          have hD3 : (upd H3 lv (.lst (zs ++ [.ref D]))) D = some (.lst ws) := by rw [upd_ne nD]; exact hD2
          have hln3 : (upd H3 lv (.lst (zs ++ [.ref D]))) ln = some (.dT (dRows (lev ns n))) := by rw [upd_ne nlv]; exact hln2
          have s7 : Same H (upd H3 lv (.lst (zs ++ [.ref D]))) := same_upd2 s6 hlv
          have rw3 : Rows (hid (upd H3 lv (.lst (zs ++ [.ref D]))) [lv]) ws (lev ns n) := by
            rw [hid_upd (by simp)]
            exact rw2.mono (Same.lsts (hid_less (by simp)))
          have lv3 : Lvs (hid (upd H3 lv (.lst (zs ++ [.ref D]))) [lv]) (zs ++ [.ref D]) ((List.range (n + 1)).map (lev ns)) := by
            rw [List.range_succ, List.map_append]
            refine pd_app (by rw [hid_upd (by simp)]; exact lv2) (.cons ⟨D, ws, rfl, ?_, rw3⟩ .nil)
            rw [hid_out (by simp [nD])]
            exact hD3
          generalize upd H3 lv (.lst (zs ++ [.ref D])) = H4 at hlv3 hD3 hln3 s7 rw3 lv3
          -- more = {}
          refine fun mo hmo => ?_
          have s8 : Same H4 (upd H4 mo (.dT [])) := same_new hmo
          have hmoH : H mo = none := s7.free hmo
          have hmo5 : (upd H4 mo (.dT [])) mo = some (.dT (dRows (levN (lev ns n) 0))) := upd_same
          generalize upd H4 mo (.dT []) = H5 at s8 hmo5
          have nmo : mo ≠ lv := (ne_of_none hlv3 hmo).symm
          have hD5 := s8 _ _ hD3
          refine ⟨.ref lv, rfl, 1, rfl, lv, _, -1, .ref D, rfl, rfl, SqL.of (s8 _ _ hlv3), atI_last _ _, D, rfl, ⟨_, SqL.of hD5⟩, ?_⟩
          -- for some in levels[-1]
          refine for_list (K := K) (a := D) (xs := ws)
            (fun i σ H' => ∃ y4 y5, σ = [some (.ref a), some (.ref lv), some (.ref ln), some (.ref mo), y4, y5] ∧ Same H4 H' ∧ H' mo = some (.dT (dRows (levN (lev ns n) i))))
            ⟨_, _, rfl, s8, hmo5⟩ (fun i σ H' _ h => ?_) (fun i x σ H6 hx h => ?_) (fun σ H6 h => ?_)
          · obtain ⟨_, _, _, s9, _⟩ := h
            exact SqL.of (s9 _ _ hD3)
          · obtain ⟨y4, y5, rfl, s9, hmo6⟩ := h
            obtain ⟨r, hr, b, rfl, hb⟩ := pd_at rw3 hx
            have hbr : Lst H4 b r := hid_same _ _ _ _ hb
            have rch := mem_lev.mp (List.mem_of_getElem? hr)
            have okr : Small r := rch.ok ok
            refine ⟨.ref b, rfl, b, r, rfl, (hbr.mono s9).sq, okr.row12, fun H7 p ps s10 hp hps pr => ⟨p, rfl, ⟨_, SqL.of hps⟩, ?_⟩⟩
            have nmp : mo ≠ p := fun e => by rw [e, hp] at hmo6; cases hmo6
            refine for_list (K := K) (a := p) (xs := ps)
              (fun j σ H' => ∃ y5, σ = [some (.ref a), some (.ref lv), some (.ref ln), some (.ref mo), some (.ref b), y5] ∧ Same H4 H' ∧ H' mo = some (.dT (dRows (((kids r).take j).foldl ins (levN (lev ns n) i)))) ∧
                H' p = some (.lst ps) ∧ Prs H' ps (evs r))
              ⟨_, rfl, s9.trans s10, s10 _ _ hmo6, hps, pr⟩ (fun j σ H' _ h => ?_) (fun j x σ H8 hx2 h => ?_) (fun σ H8 h => ?_)
            · obtain ⟨_, _, _, _, h5, _⟩ := h
              exact SqL.of h5
            · obtain ⟨y5, rfl, s11, hmo8, hp8, pr8⟩ := h
              obtain ⟨pp, hpp, tt, rfl, htt⟩ := prs_at pr8 hx2
              have hpe := List.mem_of_getElem? hpp
              refine ⟨.ref mo, rfl, .ref b, rfl, .ref tt, rfl, b, tt, r, pp, rfl, (hbr.mono s11).sq, htt, hpe, okr.row12, fun H9 e s12 he hE => ?_⟩
              refine ⟨e, _, rfl, .inl ⟨hE.sq, fun t2 ht2 => ?_⟩⟩
              have s13 : Same H9 (upd H9 t2 (.tup ((behP r pp).map V.int))) := same_new ht2
              have hmo9 := s13 _ _ (s12 _ _ hmo8)
              have hkid : (kids r)[j]? = some (behP r pp) := by unfold kids; rw [List.getElem?_map, hpp]; rfl
              have cnt2 : (((kids r).take j).foldl ins (levN (lev ns n) i)).length ≤ 4084101 := by
                refine count_le ok (nd_insAll (nd_levN _ _)) fun z hz => ?_
                rcases mem_insAll.mp hz with hz | hz
                · obtain ⟨q2, hq2, hzk⟩ := mem_levN.mp hz
                  obtain ⟨p2, hp2, rfl⟩ := mem_kids.mp hzk
                  exact ⟨n + 1, .step (mem_lev.mp (List.mem_of_mem_take hq2)) hp2⟩
                · obtain ⟨p2, hp2, rfl⟩ := mem_kids.mp (List.mem_of_mem_take hz)
                  exact ⟨n + 1, .step rch hp2⟩
              refine ⟨mo, _, rfl, DPut.t (k := rowKey (behP r pp)) hmo9 (by rw [rowKey_V]; exact upd_same) (lineB (by rw [dRows_length]; omega)), ?_⟩
              rw [put_dRows]
              have s14 : Same H8 (upd H9 t2 (.tup ((behP r pp).map V.int))) := s12.trans s13
              refine ⟨_, rfl, same_upd2 (s11.trans s14) hmo, ?_, ?_, ?_⟩
              · rw [upd_same, List.take_add_one, hkid, List.foldl_append]
                rfl
              · rw [upd_ne nmp.symm]
                exact s14 _ _ hp8
              · exact pr8.mono ((Same.tups s14).trans (tups_dT hmo9))
            · obtain ⟨y5, rfl, s11, hmo8, hp8, pr8⟩ := h
              refine ⟨_, _, rfl, s11, ?_⟩
              rw [hmo8, levN_succ hr, List.take_of_length_le (by unfold kids; rw [List.length_map, ← pd_len pr]; exact Nat.le_refl _)]
          · obtain ⟨y4, y5, rfl, s9, hmo6⟩ := h
            refine ⟨.ref mo, rfl, ?_⟩
            refine ⟨_, mo, _, _, _, rfl, s7.trans s9, s9 _ _ hlv3, ?_, lv3.mono (Same.lsts (hid_mono s9)), hmoH⟩
            rw [hmo6, pd_len rw3, levN_all]
            rfl
      · -- the end
        have c1 : lev ns n = [] := by
          have c0 : ¬ 0 < (dRows (lev ns n)).length := fun z => c (decide_eq_true (by omega))
          rw [dRows_length] at c0
          exact List.length_eq_zero_iff.mp (by omega)
        exact ⟨.ref lv, rfl, q H1 lv zs n sA hlv hlvA (lvA.mono (Same.lsts (hid_same _ _))) c1 hne⟩
end
end EG

/-! sorted of a list of rows of whole numbers. -/
namespace EG
open PySem PySem.Spec PyProof.Rows L2
def srt (L : List Rw) : List Rw := L.mergeSort fun p q => decide (p ≤ q)
theorem perm_of_mem : ∀ {L M : List Rw}, L.Nodup → M.Nodup → (∀ x, x ∈ L ↔ x ∈ M) → L.Perm M
  | [], M, _, _, h => by
    have e : M = [] := List.eq_nil_iff_forall_not_mem.mpr fun x hx => nomatch (h x).mpr hx
    rw [e]
  | x :: L, M, n1, n2, h => by
    have hx : x ∈ M := (h x).mp List.mem_cons_self
    obtain ⟨hxL, ndL⟩ := List.nodup_cons.mp n1
    refine ((perm_of_mem ndL (n2.erase x) fun y => ?_).cons x).trans (List.perm_cons_erase hx).symm
    rw [n2.mem_erase_iff]
    constructor
    · intro hy
      exact ⟨fun e => hxL (by rw [← e]; exact hy), (h y).mp (List.mem_cons_of_mem _ hy)⟩
    · rintro ⟨ne, hy⟩
      rcases List.mem_cons.mp ((h y).mpr hy) with e | hy
      · exact absurd e ne
      · exact hy
theorem srt_le_total (a b : Rw) : (decide (a ≤ b) || decide (b ≤ a)) = true := by
  rcases List.le_total a b with h | h <;> simp [h]
theorem srt_le_trans (a b c : Rw) (h1 : decide (a ≤ b) = true) (h2 : decide (b ≤ c) = true) : decide (a ≤ c) = true := decide_eq_true (List.le_trans (of_decide_eq_true h1) (of_decide_eq_true h2))
theorem srt_perm (L : List Rw) : (srt L).Perm L := List.mergeSort_perm L _
theorem srt_nodup {L : List Rw} (h : L.Nodup) : (srt L).Nodup := (srt_perm L).nodup_iff.mpr h
theorem mem_srt {L : List Rw} {x : Rw} : x ∈ srt L ↔ x ∈ L := (srt_perm L).mem_iff
theorem srt_eq {L M : List Rw} (h : L.Perm M) : srt L = srt M :=
  ((srt_perm L).trans (h.trans (srt_perm M).symm)).eq_of_pairwise (fun a b _ _ h1 h2 => List.le_antisymm (of_decide_eq_true h1) (of_decide_eq_true h2)) (List.pairwise_mergeSort srt_le_trans srt_le_total L) (List.pairwise_mergeSort srt_le_trans srt_le_total M)
theorem srt_same {L M : List Rw} (n1 : L.Nodup) (n2 : M.Nodup) (h : ∀ x, x ∈ L ↔ x ∈ M) : srt L = srt M := srt_eq (perm_of_mem n1 n2 h)
/-- sorted(xs), xs a list of rows; R is whatever the items are known to be -/
def rSortRows (K : PySem.W.Frag) : List V → Hp → VK → Prop := fun vs H Q => ∃ (a : Addr) (ws : List V) (L : List Rw) (R : V → Rw → Prop), vs = [V.ref a] ∧ SqL K H a ws ∧ Paired R ws L ∧ (∀ v r, R v r → IsRow H v r) ∧
  ∀ ys p, H p = none → Paired R ys (srt L) → Q (.ref p) (upd H p (.lst ys))
theorem each_rows {H : Hp} {R : V → Rw → Prop} (hR : ∀ v r, R v r → IsRow H v r) : ∀ {ws : List V} {us : List Value} {L : List Rw}, Vals ws us → Paired R ws L → PySem.W.EachIs (fun u r => R (backV u) r ∧ ∃ a, u = Value.ref a) us L
  | _, _, _, .nil, .nil => .nil
  | _, _, _, .cons r t, .cons q z => by
    obtain ⟨b, rfl, _⟩ := hR _ _ q
    cases r
    exact .cons ⟨q, b, rfl⟩ (each_rows hR t z)
theorem back_rows {R : V → Rw → Prop} : ∀ {us : List Value} {L : List Rw}, PySem.W.EachIs (fun u r => R (backV u) r ∧ ∃ a, u = Value.ref a) us L → Paired R (us.map backV) L ∧ ∀ u ∈ us, ∃ a, u = Value.ref a
  | _, _, .nil => ⟨.nil, fun u hu => nomatch hu⟩
  | _, _, .cons q z => by
    obtain ⟨h1, h2⟩ := back_rows z
    refine ⟨.cons q.1 h1, fun u hu => ?_⟩
    rcases List.mem_cons.mp hu with e | hu
    · rw [e]; exact q.2
    · exact h2 u hu
theorem rows_reads {X : Cx} {pins : List (Addr × Obj)} {σ : L2.St} {H : Hp} {s : Shared} (I : L2.Inv X pins σ H s) {R : V → Rw → Prop} (hR : ∀ v r, R v r → IsRow H v r) : ∀ {us : List Value} {L : List Rw}, PySem.W.EachIs (fun u r => R (backV u) r ∧ ∃ a, u = Value.ref a) us L →
    PySem.W.EachIs (fun v b => ∃ as, Reads s.heap v (rowD b) as) us L
  | _, _, .nil => .nil
  | _, _, .cons q z => by
    refine .cons ?_ (rows_reads I hR z)
    obtain ⟨q1, a, rfl⟩ := q
    obtain ⟨b, e, hb⟩ := hR _ _ q1
    cases e
    exact Dp.reads I (rowD _) (.ref a) (.ref a) (dp_row (SqL.of hb)) rfl
section
variable {X : Cx}
theorem cr_sortRows (hu : X.A.units + 65 < cLine) : CallR X (.builtin "sorted") (rSortRows X.K) := by
  intro pins s σ H vs us Q I r h
  obtain ⟨a, ws, L, R, rfl, hs, hp, hR, q⟩ := h
  obtain ⟨its, rv, hl, hz⟩ := I.list hs
  rw [Vals.ref1 r]
  have e := each_rows hR rv hp
  refine PySem.W.sorted_data (enc := rowD) (R := fun u r => R (backV u) r ∧ ∃ a, u = Value.ref a) hl.isList e (rows_reads I hR e) (PySem.W.AllAlike.of fun b b' => by unfold rowD; simp only [PySem.W.alike]; exact PySem.W.alike_ints b b')
    (PySem.W.Sortable.others fun b => ⟨nofun, nofun⟩) (by rw [← e.length, ← rv.length]; exact hz) (fun b _ => ?_) fun out ho eo => ?_
  · have h1 : (rowD b).depth = 1 := by
      unfold rowD
      rw [PyData.depth, PySem.W.depth_ints]
    omega
  · have ed : PySem.W.dataLe false rowD = fun p q => decide (p ≤ q) := PySem.W.dataLe_rows (fun b : List Int => b)
    rw [ed] at eo
    obtain ⟨h1, h2⟩ := back_rows eo
    obtain ⟨ep, he'⟩ := PyProof.Rows.sortedAll_at s.heap its out.toArray
    refine ⟨.ref _, upd H (s.heap.objs.size + 1) (.lst (out.map backV)), I.laid (t' := s.toks) (fun _ _ => PyProof.Rows.sortedAll_old) (Nat.le_succ _) ⟨?_, out, ep, vals_back h2, he'⟩, rfl, q _ _ (I.hok.fresh (Nat.le_succ _)) h1⟩
    rw [List.length_map, ho, ← e.length, ← rv.length]
    exact hz
end
end EG

/-! The fewest and the most evenings till a row is settled: the law of it. -/
namespace EG
open PySem L2
theorem Rch.front {r x : Rw} {n : Nat} {p : Pr} (hp : p ∈ evs r) (h : Rch (behP r p) n x) : Rch r (n + 1) x := by
  induction h with
  | zero => exact .step (.zero r) hp
  | step h hp2 ih => exact .step ih hp2
theorem Rch.split {r x : Rw} : ∀ {n : Nat}, Rch r (n + 1) x → ∃ p, p ∈ evs r ∧ Rch (behP r p) n x
  | 0, h => by
    cases h with
    | @step q _ p h hp =>
      cases h
      exact ⟨p, hp, .zero _⟩
  | n + 1, h => by
    cases h with
    | @step q _ p h hp =>
      obtain ⟨p0, h0, h1⟩ := Rch.split h
      exact ⟨p0, h0, .step h1 hp⟩
def Bd (r : Rw) (lo hi : Nat) : Prop := (∃ x, Rch r lo x ∧ evs x = []) ∧ (∃ x, Rch r hi x ∧ evs x = []) ∧ ∀ k x, Rch r k x → evs x = [] → lo ≤ k ∧ k ≤ hi
theorem Bd.nil {r : Rw} (h : evs r = []) : Bd r 0 0 := by
  refine ⟨⟨r, .zero _, h⟩, ⟨r, .zero _, h⟩, fun k x hk _ => ?_⟩
  cases k with
  | zero => exact ⟨Nat.le_refl _, Nat.le_refl _⟩
  | succ n =>
    obtain ⟨p, hp, _⟩ := Rch.split hk
    rw [h] at hp
    cases hp
abbrev BdP (r : Rw) (b p : Pr) : Prop := ∃ lo hi : Nat, b = ((lo : Int), (hi : Int)) ∧ Bd (behP r p) lo hi
theorem pd_back {α β : Type} {F : α → β → Prop} : ∀ {vs : List α} {ps : List β}, Paired F vs ps → ∀ p ∈ ps, ∃ v ∈ vs, F v p
  | _, _, .nil, p, h => nomatch h
  | _, _, .cons r t, p, h => by
    rcases List.mem_cons.mp h with rfl | h
    · exact ⟨_, List.mem_cons_self, r⟩
    · obtain ⟨v, h1, h2⟩ := pd_back t p h
      exact ⟨v, List.mem_cons_of_mem _ h1, h2⟩
theorem pd_forth {α β : Type} {F : α → β → Prop} {vs : List α} {ps : List β} (h : Paired F vs ps) {v : α} (hv : v ∈ vs) : ∃ p ∈ ps, F v p := by
  obtain ⟨i, hi⟩ := List.mem_iff_getElem?.mp hv
  obtain ⟨p, h1, h2⟩ := pd_at h hi
  exact ⟨p, List.mem_of_getElem? h1, h2⟩
theorem Bd.step {r : Rw} {bs : List Pr} (h : Paired (BdP r) bs (evs r)) {m M : Int} (m1 : m ∈ bs.map (·.1)) (m2 : ∀ y ∈ bs.map (·.1), m ≤ y) (M1 : M ∈ bs.map (·.2)) (M2 : ∀ y ∈ bs.map (·.2), y ≤ M) :
    ∃ lo hi : Nat, 1 + m = (lo : Int) ∧ 1 + M = (hi : Int) ∧ Bd r lo hi := by
  obtain ⟨b, hb, rfl⟩ := List.mem_map.mp m1
  obtain ⟨c, hc, rfl⟩ := List.mem_map.mp M1
  obtain ⟨p, hp, lo, _, rfl, ⟨x, hx, ex⟩, _⟩ := pd_forth h hb
  obtain ⟨q, hq, _, hi, rfl, _, ⟨y, hy, ey⟩, _⟩ := pd_forth h hc
  refine ⟨lo + 1, hi + 1, by show 1 + (lo : Int) = _; omega, by show 1 + (hi : Int) = _; omega, ⟨x, hx.front hp, ex⟩, ⟨y, hy.front hq, ey⟩, fun k z hk ez => ?_⟩
  cases k with
  | zero =>
    cases hk
    rw [ez] at hp
    cases hp
  | succ n =>
    obtain ⟨p2, hp2, hn⟩ := Rch.split hk
    obtain ⟨b2, hb2, l2, h2, rfl, _, _, hb3⟩ := pd_back h p2 hp2
    have := hb3 n z hn ez
    have h5 : (lo : Int) ≤ (l2 : Int) := m2 _ (List.mem_map.mpr ⟨_, hb2, rfl⟩)
    have h6 : (h2 : Int) ≤ (hi : Int) := M2 _ (List.mem_map.mpr ⟨_, hb2, rfl⟩)
    omega
/-! ### how far it goes down -/
def mz (r : Rw) : Int := sq r - 12 * r.sum + 36 * r.length
theorem mz_cons (x : Int) (r : Rw) : mz (x :: r) = (x - 6) * (x - 6) + mz r := by
  unfold mz sq
  rw [List.map_cons, List.sum_cons, List.sum_cons, List.length_cons, show (x - 6) * (x - 6) = x * x - 12 * x + 36 by rw [Int.sub_mul, Int.mul_sub]; omega]
  push_cast
  omega
theorem mz_nonneg : ∀ r : Rw, 0 ≤ mz r
  | [] => by decide
  | x :: r => by
    have ih := mz_nonneg r
    have h : 0 ≤ (x - 6) * (x - 6) := by
      rcases Int.le_total 0 (x - 6) with h | h
      · exact Int.mul_nonneg h h
      · exact Int.mul_nonneg_of_nonpos_of_nonpos h h
    rw [mz_cons]
    omega
theorem mz_le : ∀ {r : Rw}, (∀ x ∈ r, 0 ≤ x ∧ x ≤ 12) → mz r ≤ 36 * r.length
  | [], _ => by decide
  | x :: r, h => by
    have ih := mz_le (r := r) fun y hy => h y (List.mem_cons_of_mem _ hy)
    obtain ⟨h1, h2⟩ := h x List.mem_cons_self
    have h3 : (x - 6) * (x - 6) ≤ 36 := by
      rcases Int.le_total 0 (x - 6) with h | h
      · exact Int.mul_le_mul (c := 6) (d := 6) (a := x - 6) (b := x - 6) (by omega) (by omega) h (by decide)
      · have e : (x - 6) * (x - 6) = (6 - x) * (6 - x) := by
          rw [show x - 6 = -(6 - x) by omega, Int.neg_mul_neg]
        rw [e]
        exact Int.mul_le_mul (c := 6) (d := 6) (a := 6 - x) (b := 6 - x) (by omega) (by omega) (by omega) (by decide)
    rw [mz_cons, List.length_cons]
    push_cast
    omega
theorem fall2 {ns : Rw} {p : Pr} (hp : p ∈ evs ns) : 2 ≤ fallP ns p := by
  have h0 := (sq_fall hp).2
  obtain ⟨i, j, rfl, hij, hj, hg⟩ := mem_evs.mp hp
  obtain ⟨h1, h2⟩ := goodP_iff.mp hg
  have e : fallP ns ((i : Int), (j : Int)) = (ns.getD i 0 - ns.getD j 0) * (ns.getD i 0 - ns.getD j 0) / 2 := rfl
  rw [e] at h0 ⊢
  obtain ⟨d, ed⟩ : ∃ d, ns.getD i 0 - ns.getD j 0 = 2 * d := ⟨(ns.getD i 0 - ns.getD j 0) / 2, by omega⟩
  rw [ed, show 2 * d * (2 * d) = 2 * (2 * (d * d)) by rw [Int.mul_assoc, Int.mul_left_comm d 2 d]] at h0 ⊢
  omega
theorem mz_fall {ns : Rw} {p : Pr} (hp : p ∈ evs ns) : mz (behP ns p) + 2 ≤ mz ns := by
  have h1 := sq_fall hp
  have h2 := fall2 hp
  unfold mz
  rw [behP_sum hp, behP_length]
  omega
theorem mz12 {ns : Rw} (h : RowOk ns 5 12) : mz ns < 2 * 91 := by
  have h1 := mz_le h.2.2
  have h2 := h.2.1
  omega
/-! ### turned about -/
theorem rev_step {r : Rw} {p : Pr} (hp : p ∈ evs r) : ∃ q, q ∈ evs r.reverse ∧ behP r.reverse q = (behP r p).reverse := by
  obtain ⟨i, j, rfl, hij, hj, hg⟩ := mem_evs.mp hp
  obtain ⟨h1, h2⟩ := goodP_iff.mp hg
  have e1 : r.reverse.getD (r.length - 1 - j) 0 = r.getD j 0 := by rw [rev_get (by omega)]; congr 1; omega
  have e2 : r.reverse.getD (r.length - 1 - i) 0 = r.getD i 0 := by rw [rev_get (by omega)]; congr 1; omega
  refine ⟨(((r.length - 1 - j : Nat) : Int), ((r.length - 1 - i : Nat) : Int)), mem_evs.mpr ⟨_, _, rfl, by omega, by rw [List.length_reverse]; omega, goodP_iff.mpr ⟨by rw [e1, e2]; exact fun z => h1 z.symm, by rw [e1, e2]; omega⟩⟩, ?_⟩
  have hh : half r.reverse (r.length - 1 - j) (r.length - 1 - i) = half r i j := by
    unfold half
    rw [e1, e2, Int.add_comm]
  show beh r.reverse (r.length - 1 - j) (r.length - 1 - i) = (beh r i j).reverse
  apply List.ext_getElem?
  intro k
  by_cases hk : k < r.length
  · rw [List.getElem?_reverse (by rw [beh_length]; exact hk), beh_length, beh_get _ _ _ _ (by rw [List.length_reverse]; exact hk), beh_get _ _ _ _ (by omega), hh, rev_get hk]
    congr 1
    by_cases c : k = r.length - 1 - j ∨ k = r.length - 1 - i
    · rw [if_pos c, if_pos (by omega)]
    · rw [if_neg c, if_neg (by omega)]
  · rw [List.getElem?_eq_none (by rw [beh_length, List.length_reverse]; omega), List.getElem?_eq_none (by rw [List.length_reverse, beh_length]; omega)]
theorem Rch.rev {r x : Rw} {n : Nat} (h : Rch r n x) : Rch r.reverse n x.reverse := by
  induction h with
  | zero => exact .zero _
  | step h hp ih =>
    obtain ⟨q, hq, e⟩ := rev_step hp
    rw [← e]
    exact .step ih hq
theorem Rch.rev_iff {r x : Rw} {n : Nat} : Rch r.reverse n x ↔ Rch r n x.reverse :=
  ⟨fun h => by have := h.rev; rwa [List.reverse_reverse] at this, fun h => by have := h.rev; rwa [List.reverse_reverse] at this⟩
end EG

/-! bounds_of, fewest_most. -/
namespace EG
open PySem L2
def IsBt (H : Hp) (v : V) (r : Rw) : Prop := ∃ (t : Addr) (lo hi : Nat), v = .ref t ∧ H t = some (.tup [.int (lo : Int), .int (hi : Int)]) ∧ Bd r lo hi
def KnE (H : Hp) (e : List Key × V) (r : Rw) : Prop := e.1 = rowKey r ∧ IsBt H e.2 r
/-- what is known -/
def Kn (H : Hp) (kd : Addr) (n : Nat) : Prop := ∃ kvs ks, H kd = some (.dT kvs) ∧ Paired (KnE H) kvs ks ∧ ks.Nodup ∧ ∀ r ∈ ks, r.length = n ∧ ∀ x ∈ r, 0 ≤ x ∧ x ≤ 20
theorem KnE.mono {H H' : Hp} (s : TupS H H') {e : List Key × V} {r : Rw} (h : KnE H e r) : KnE H' e r := by
  obtain ⟨h1, t, lo, hi, h2, h3, h4⟩ := h
  exact ⟨h1, t, lo, hi, h2, s _ _ h3, h4⟩
theorem Kn.mono {H H' : Hp} {kd : Addr} {n : Nat} (s : TupS H H') (e : ∀ kvs, H kd = some (.dT kvs) → H' kd = some (.dT kvs)) (h : Kn H kd n) : Kn H' kd n := by
  obtain ⟨kvs, ks, h1, h2, h3, h4⟩ := h
  exact ⟨kvs, ks, e _ h1, Paired.mapP h2 fun _ _ q => q.mono s, h3, h4⟩
theorem Kn.same {H H' : Hp} {kd : Addr} {n : Nat} (s : Same H H') (h : Kn H kd n) : Kn H' kd n := h.mono (Same.tups s) fun _ e => s _ _ e
theorem kn_val {H : Hp} {r : Rw} : ∀ {kvs : List (List Key × V)} {ks : List Rw}, Paired (KnE H) kvs ks → (valV kvs (rowKey r) = none ∧ r ∉ ks) ∨ ∃ v, valV kvs (rowKey r) = some v ∧ IsBt H v r
  | _, _, .nil => .inl ⟨rfl, List.not_mem_nil⟩
  | _, _, .cons (a := e) (b := q) (l₁ := kvs) (l₂ := ks) h t => by
    obtain ⟨h1, h2⟩ := h
    by_cases c : q = r
    · subst c
      exact .inr ⟨_, valV_pos h1, h2⟩
    · have c2 : ¬ e.1 = rowKey r := fun z => c (rowKey_inj (h1.symm.trans z))
      rw [valV_neg c2]
      rcases kn_val t with ⟨h3, h4⟩ | h3
      · exact .inl ⟨h3, fun z => by
          rcases List.mem_cons.mp z with z | z
          · exact c z.symm
          · exact h4 z⟩
      · exact .inr h3
theorem kn_put {H : Hp} {r : Rw} {u : Addr} {lo hi : Nat} (hu : H u = some (.tup [.int (lo : Int), .int (hi : Int)])) (hb : Bd r lo hi) : ∀ {kvs : List (List Key × V)} {ks : List Rw}, Paired (KnE H) kvs ks →
    Paired (KnE H) (kvs.map fun kv => if kv.1 = rowKey r then (kv.1, V.ref u) else kv) ks
  | _, _, .nil => .nil
  | _, _, .cons (a := e) (b := q) (l₁ := kvs) (l₂ := ks) h t => by
    rw [List.map_cons]
    refine .cons ?_ (kn_put hu hb t)
    split
    · rename_i c
      have eq : q = r := rowKey_inj (h.1.symm.trans c)
      exact ⟨h.1, u, lo, hi, rfl, hu, by rw [eq]; exact hb⟩
    · exact h
def Sx (kd : Addr) (H H' : Hp) : Prop := ∀ b o, b ≠ kd → H b = some o → H' b = some o
theorem Same.sx {kd : Addr} {H H' : Hp} (s : Same H H') : Sx kd H H' := fun b o _ h => s b o h
theorem Sx.trans {kd : Addr} {H H1 H2 : Hp} (a : Sx kd H H1) (b : Sx kd H1 H2) : Sx kd H H2 := fun c o n h => b c o n (a c o n h)
theorem sx_upd {kd : Addr} {H : Hp} {o : HO} : Sx kd H (upd H kd o) := fun b u n h => by rw [upd_ne n]; exact h
theorem Sx.new {kd D : Addr} {H H' : Hp} {o : HO} (s : Sx kd H H') (h : H D = none) : Sx kd H (upd H' D o) := fun b u n e => by
  rw [upd_ne (ne_of_none e h)]; exact s b u n e
section
variable {P : Program} {w : World} {K : PySem.W.Frag} {mg : Str → Option Value} {base : Heap}
def sp_bounds (m : Nat) : Sp := fun vs H Q _ => ∃ (a kd : Addr) (ns : Rw), vs = [.ref a, .ref kd] ∧ Lst H a ns ∧ Small ns ∧ mz ns < 2 * m ∧ Kn H kd ns.length ∧
  ∀ H' t (lo hi : Nat), Sx kd H H' → Kn H' kd ns.length → H' t = some (.tup [.int (lo : Int), .int (hi : Int)]) → Bd ns lo hi → Q (.ref t) H'
abbrev N_bounds_of : List Str := ["row", "known", "spot", "some", "evening", "low", "high"]
theorem bounds_step {f : Addr} {fd : FuncData} {m : Nat} (F : Fun K "bounds_of" "bounds_of" s_bounds_of f fd) (B : Blt mg) (c_evenings_of : Cal CX0 P w K mg base "evenings_of" ["row"] 1 (sp_evenings_of K))
    (c_behind : Cal CX0 P w K mg base "behind" ["row", "evening"] 1 (sp_behind K)) (c_bounds_of : Cal CX0 P w K mg base "bounds_of" ["row", "known"] (m + 1) (sp_bounds m)) : FnOk P w K mg base CX0 (m + 1 + 1) f fd ["row", "known"] (sp_bounds (m + 1)) := by
  refine F.ok sc_bounds_of (fun vs H Q E h => ?_) (fun cdv A outer s H vs Q E hr h => ?_)
  · obtain ⟨a, kd, ns, rfl, _⟩ := h
    rfl
  · obtain ⟨a, kd, ns, rfl, hS, ok, hmz, kn, q⟩ := h
    refine ⟨_, (pss_cons (ps_set (i := 2) sc_bounds_of.nd rfl (.inl rfl) (pe_callTy (r := rTupOf K) call_tuple_of (by rfl) B.tuple PyProof.Rows.boot_tuple (pa_cons (pv 0) pa_nil)))
    (pss_cons (ps_if (pt_cmp (pc_dnotin (hu_of hr) (pv 2) (pv 1)))
    (pss_cons (ps_setLc (i := 3) (own := [("evening", 4)]) (g := gName 4) (tt := tYes) rfl sc_bounds_of.nd rfl rfl (sw_true rfl rfl rfl (by decide +kernel)) (pi_list (pe_cal c_evenings_of hr (by rfl) (pa_cons (pv 0) pa_nil) (Nat.le_add_left 1 m))) (blkOk_by (N := N_bounds_of) (sc := defScope s_bounds_of) (by decide +kernel)) (fun _ _ _ _ _ => (pg_name (i := 4) sc_bounds_of.nd rfl (.inl rfl))) (fun _ _ _ _ _ => pts_nil) (fun _ _ _ _ _ => (pe_cal c_bounds_of hr (by rfl) (pa_cons (pe_cal c_behind hr (by rfl) (pa_cons (pv 0) (pa_cons (pv 4) pa_nil)) (Nat.le_add_left 1 m)) (pa_cons (pv 1) pa_nil)) (Nat.le_refl _))))
      (pss_one (ps_if (pt_cmpR (r := rEqD K) (op_eqD hr.units) (pv 3) (pe_lst pa_nil) (nomark _))
      (pss_one (ps_dput (hu_of hr) (pv 1) (pv 2) (pe_tup (pa_cons pe_int (pa_cons pe_int pa_nil))) rfl))
      (pss_one (ps_dput (hu_of hr) (pv 1) (pv 2) (pe_tup (pa_cons (pe_op op_add pe_int (pe_callB (r := rMin K) (cr_min rfl) (by rfl) B.min PyProof.Rows.boot_min (pa_cons (pe_lc (own := [("low", 5), ("high", 6)]) (g := gTup K 2 (gCons (gName 5) (gCons (gName 6) gNil))) (tt := tYes) rfl sc_bounds_of.nd (pi_list (pv 3)) (blkOk_by (N := N_bounds_of) (sc := defScope s_bounds_of) (by decide +kernel)) (fun _ _ _ _ _ => (pg_tup rfl (pgs_cons (pg_name (i := 5) sc_bounds_of.nd rfl (.inl rfl)) (pgs_cons (pg_name (i := 6) sc_bounds_of.nd rfl (.inl rfl)) pgs_nil)))) (fun _ _ _ _ _ => pts_nil) (fun _ _ _ _ _ => (pv 5))) pa_nil))) (pa_cons (pe_op op_add pe_int (pe_callB (r := rMax K) (cr_max rfl) (by rfl) B.max PyProof.Rows.boot_max (pa_cons (pe_lc (own := [("low", 5), ("high", 6)]) (g := gTup K 2 (gCons (gName 5) (gCons (gName 6) gNil))) (tt := tYes) rfl sc_bounds_of.nd (pi_list (pv 3)) (blkOk_by (N := N_bounds_of) (sc := defScope s_bounds_of) (by decide +kernel)) (fun _ _ _ _ _ => (pg_tup rfl (pgs_cons (pg_name (i := 5) sc_bounds_of.nd rfl (.inl rfl)) (pgs_cons (pg_name (i := 6) sc_bounds_of.nd rfl (.inl rfl)) pgs_nil)))) (fun _ _ _ _ _ => pts_nil) (fun _ _ _ _ _ => (pv 6))) pa_nil))) pa_nil))) rfl)))))
    pss_nil)
    (pss_one (ps_ret (pe_dget (hu_of hr) (pv 1) (pv 2) (fun _ _ => rfl)))))), ?_⟩
    refine ⟨.ref a, rfl, a, _, rfl, .inl ⟨hS.sq, fun t ht => ?_⟩⟩
    have s1 : Same H (upd H t (.tup (ns.map V.int))) := same_new ht
    have ht1 : (upd H t (.tup (ns.map V.int))) t = some (.tup ((rowKey ns).map kV)) := by rw [rowKey_V]; exact upd_same
    have kn1 := kn.same s1
    generalize upd H t (.tup (ns.map V.int)) = H1 at s1 ht1 kn1
    obtain ⟨kvs, ks, hkd, pk, ndk, rk⟩ := kn1
    refine ⟨.ref t, rfl, .ref kd, rfl, kd, _, rfl, DGet.t (k := rowKey ns) hkd ht1, _, rfl, ?_⟩
    rcases kn_val (r := ns) pk with ⟨hv, hni⟩ | ⟨v, hv, tt, lo, hi, ev, htt, hb⟩
    · -- not known
      refine itP (by rw [hv]; rfl) ?_
      have nkt : t ≠ kd := ne_of ht1 hkd (by intro z; cases z)
      refine ⟨.ref a, rfl, a, ns, rfl, (hS.mono s1).sq, ok.row12, fun H2 p ws s2 hp hws pe => ⟨p, rfl, ⟨_, SqL.of hws⟩, fun D hD => ?_⟩⟩
      have kn2 : Kn H2 kd ns.length := Kn.same s2 ⟨kvs, ks, hkd, pk, ndk, rk⟩
      have hkd2 := s2 _ _ hkd
      have nDk : D ≠ kd := (ne_of_none hkd2 hD).symm
      have npk : p ≠ kd := ne_of hws hkd2 (by intro z; cases z)
      have nak : a ≠ kd := ne_of (show H1 a = _ from hS.mono s1) hkd (by intro z; cases z)
      refine lc_list (K := K) (a := p) (xs := ws) (fun i H' => ∃ acc bs, Sx kd H2 H' ∧ Kn H' kd ns.length ∧ H' D = some (.lst acc) ∧ Prs H' acc bs ∧ Paired (BdP ns) bs ((evs ns).take i))
        ⟨[], [], Sx.new (Same.sx (Same.refl _)) hD, kn2.same (same_new hD), upd_same, .nil, .nil⟩ (fun i H' _ h => ?_) (fun i x H3 hx h => ?_) (fun H3 h => ?_)
      · obtain ⟨_, _, s3, _⟩ := h
        exact SqL.of (s3 _ _ npk hws)
      · obtain ⟨acc, bs, s3, kn3, hD3, pr3, bp3⟩ := h
        obtain ⟨pp, hpp, tt, rfl, htt⟩ := prs_at pe hx
        have hpe := List.mem_of_getElem? hpp
        obtain ⟨i1, j1, epp, hij, hj1, hgd⟩ := mem_evs.mp hpe
        have ntk : tt ≠ kd := ne_of htt hkd2 (by intro z; cases z)
        have htt3 := s3 _ _ ntk htt
        have hS3 : Lst H3 a ns := s3 _ _ nak (s2 _ _ (hS.mono s1))
        refine ⟨rfl, iteT (B := True) ?_⟩
        refine ⟨.ref a, rfl, .ref tt, rfl, a, tt, ns, i1, j1, rfl, hS3.sq, ?_, by omega, hj1, ok.row12, fun H4 th s4 hth hTh => ?_⟩
        · rw [epp] at htt3
          exact SqT.of htt3
        have eb : beh ns i1 j1 = behP ns pp := by rw [epp]; rfl
        rw [eb] at hTh
        have mf := mz_fall hpe
        refine ⟨.ref kd, rfl, th, kd, behP ns pp, rfl, hTh, ok.beh hpe, by omega, by rw [behP_length]; exact kn3.same s4, fun H5 u lo hi s5 kn5 hu hb => ?_⟩
        rw [behP_length] at kn5
        have hD5 := s5 _ _ nDk (s4 _ _ hD3)
        have li : acc.length ≤ (evs ns).length := by
          rw [pd_len pr3, pd_len bp3, List.length_take]
          omega
        have le := evs_len ok.row12
        have nuD : u ≠ D := ne_of hu hD5 (by intro z; cases z)
        have tup5 : TupS H3 H5 := fun b xs hb2 => s5 _ _ (by
          intro z
          obtain ⟨kv5, _, hk5, _⟩ := kn3
          rw [z, hk5] at hb2
          cases hb2) (s4 _ _ hb2)
        refine ⟨acc, hD5, small1000 (by omega), acc ++ [.ref u], bs ++ [((lo : Int), (hi : Int))], Sx.new (s3.trans ((Same.sx s4).trans s5)) hD, kn5.mono (tups_lst hD5) (fun _ e => by rw [upd_ne nDk.symm]; exact e), upd_same, ?_, ?_⟩
        · exact prs_app ((pr3.mono tup5).mono (tups_lst hD5)) (.cons ⟨u, rfl, by rw [upd_ne nuD]; exact hu⟩ .nil)
        · rw [List.take_add_one, hpp]
          exact pd_app bp3 (.cons ⟨lo, hi, rfl, hb⟩ .nil)
      · obtain ⟨acc, bs, s3, kn3, hD3, pr3, bp3⟩ := h
        rw [List.take_of_length_le (by rw [pd_len pe]; exact Nat.le_refl _)] at bp3
        have s13 : Sx kd H1 H3 := (Same.sx s2).trans s3
        have ht3 := s13 _ _ nkt ht1
        refine ⟨.ref D, rfl, Nat.zero_le _, fun z hz => ?_⟩
        have s4 : Same H3 (upd H3 z (.lst [])) := same_new hz
        refine ⟨prsD bs, prsD [], dp_prs (SqL.of (s4 _ _ hD3)) (pr3.mono (Same.tups s4)), dp_prs (SqL.of upd_same) .nil, shaped_prs _, shaped_prs _, _, rfl, ?_⟩
        rw [eqv_prs]
        have kn4 := kn3.same s4
        have ht4 := s4 _ _ ht3
        have hD4 := s4 _ _ hD3
        have pr4 := pr3.mono (Same.tups s4)
        have s04 : Sx kd H (upd H3 z (.lst [])) := ((Same.sx s1).trans s13).trans (Same.sx s4)
        generalize upd H3 z (.lst []) = H4 at kn4 ht4 hD4 pr4 s04
        -- what is put, then read
        have put : ∀ (H5 : Hp) (u : Addr) (lo hi : Nat), Same H4 H5 → H5 u = some (.tup [.int (lo : Int), .int (hi : Int)]) → Bd ns lo hi →
            ∃ (a1 : Addr) (H6 : Hp), V.ref kd = V.ref a1 ∧ DPut H5 a1 (.ref t) (.ref u) H6 ∧ ∃ (b : Addr) (v : V), V.ref kd = V.ref b ∧ DGet H6 b (.ref t) (some v) ∧ Q v H6 := fun H5 u lo hi s5 hu hb => by
          obtain ⟨kvs5, ks5, hkd5, pk5, ndk5, rk5⟩ := kn4.same s5
          have cnt := small_count ndk5 ok.len5 rk5
          have lk : kvs5.length = ks5.length := pd_len pk5
          have ht5 := s5 _ _ ht4
          have nuk : u ≠ kd := ne_of hu hkd5 (by intro z; cases z)
          have s6 : Sx kd H5 (upd H5 kd (.dT (putK kvs5 (rowKey ns) (.ref u)))) := sx_upd
          have hk6 : (upd H5 kd (.dT (putK kvs5 (rowKey ns) (.ref u)))) kd = some (.dT (putK kvs5 (rowKey ns) (.ref u))) := upd_same
          have hu6 := s6 _ _ nuk hu
          have ht6 := s6 _ _ nkt ht5
          have tp6 : TupS H5 (upd H5 kd (.dT (putK kvs5 (rowKey ns) (.ref u)))) := tups_dT hkd5
          refine ⟨kd, _, rfl, DPut.t (k := rowKey ns) hkd5 ht5 (lineB (by omega)), kd, .ref u, rfl, ?_, q _ u lo hi ((s04.trans (Same.sx s5)).trans s6) ?_ hu6 hb⟩
          · have e := DGet.t (k := rowKey ns) hk6 ht6
            rw [valV_put, if_pos rfl] at e
            exact e
          · rcases kn_val (r := ns) pk5 with ⟨hv5, hn5⟩ | ⟨v5, hv5, t5, lo5, hi5, rfl, ht5', hb5⟩
            · refine ⟨_, ks5 ++ [ns], hk6, ?_, ?_, fun r hr => ?_⟩
              · have kk := pd_app (Paired.mapP pk5 fun _ _ z => z.mono tp6) (.cons (F := KnE (upd H5 kd (.dT (putK kvs5 (rowKey ns) (.ref u))))) (a := (rowKey ns, V.ref u)) (b := ns) ⟨rfl, u, lo, hi, rfl, hu6, hb⟩ .nil)
                rw [← putK_new (.ref u) hv5] at kk
                exact kk
              · exact List.nodup_append.mpr ⟨ndk5, List.nodup_cons.mpr ⟨List.not_mem_nil, List.nodup_nil⟩, fun x hx y hy e => hn5 (by rw [List.mem_singleton] at hy; rw [← hy, ← e]; exact hx)⟩
              · rcases List.mem_append.mp hr with hr | hr
                · exact rk5 r hr
                · rw [List.mem_singleton.mp hr]
                  exact ⟨rfl, ok.2.2⟩
            · refine ⟨_, ks5, hk6, ?_, ndk5, rk5⟩
              have e : putK kvs5 (rowKey ns) (.ref u) = kvs5.map fun kv => if kv.1 = rowKey ns then (kv.1, V.ref u) else kv := by
                unfold putK
                rw [valV_any, hv5]
                exact if_pos rfl
              have kk := kn_put hu6 hb (Paired.mapP pk5 fun _ _ z => z.mono tp6)
              rw [← e] at kk
              exact kk
        by_cases cb : bs = []
        · refine itP (decide_eq_true cb) ?_
          subst cb
          have ev0 : evs ns = [] := List.length_eq_zero_iff.mp (pd_len bp3).symm
          refine ⟨(by show 2 ≤ sizeLine; decide), fun u hu => ?_⟩
          obtain ⟨a1, H6, e1, e2, b, v, e3, e4, e5⟩ := put _ u 0 0 (same_new hu) upd_same (Bd.nil ev0)
          exact ⟨.ref kd, rfl, .ref t, rfl, a1, H6, e1, e2, .ref kd, rfl, .ref t, rfl, b, v, e3, e4, e5⟩
        · refine itN (by rw [decide_eq_false cb]; decide) ?_
          have lb : acc.length = bs.length := pd_len pr4
          have lb0 : 0 < bs.length := List.length_pos_iff.mpr cb
          have lb2 : bs.length ≤ 144 := by rw [pd_len bp3]; exact evs_len ok.row12
          refine ⟨.ref D, rfl, D, rfl, ⟨_, SqL.of hD4⟩, fun D2 hD2 => ?_⟩
          refine lc_list (K := K) (a := D) (xs := acc) (fun i H' => Same H4 H' ∧ H' D2 = some (.lst (((bs.take i).map (·.1)).map V.int))) ⟨same_new hD2, upd_same⟩ (fun i H' _ h => SqL.of (h.1 _ _ hD4)) (fun i x H5 hx h => ?_) (fun H5 h => ?_)
          · obtain ⟨s5, hD5⟩ := h
            obtain ⟨bb, hbb, tt, rfl, htt⟩ := prs_at pr4 hx
            refine ⟨tt, _, rfl, SqT.of (s5 _ _ htt), rfl, _, _, rfl, _, _, rfl, rfl, rfl, iteT (B := True) ⟨_, rfl, _, hD5, small1000 (by rw [List.length_map, List.length_map, List.length_take]; omega), same_upd2 s5 hD2, ?_⟩⟩
            rw [upd_same, List.take_add_one, hbb, List.map_append, List.map_append]
            rfl
          · obtain ⟨s5, hD5⟩ := h
            rw [List.take_of_length_le (by omega)] at hD5
            refine ⟨D2, _, rfl, SqL.of hD5, by rw [List.length_map]; exact lb0, fun mn mn1 mn2 => ?_⟩
            refine ⟨_, _, rfl, rfl, ?_⟩
            refine ⟨.ref D, rfl, D, rfl, ⟨_, SqL.of (s5 _ _ hD4)⟩, fun D3 hD3' => ?_⟩
            refine lc_list (K := K) (a := D) (xs := acc) (fun i H' => Same H5 H' ∧ H' D3 = some (.lst (((bs.take i).map (·.2)).map V.int))) ⟨same_new hD3', upd_same⟩ (fun i H' _ h => SqL.of (h.1 _ _ (s5 _ _ hD4))) (fun i x H6 hx h => ?_) (fun H6 h => ?_)
            · obtain ⟨s6, hD6⟩ := h
              obtain ⟨bb, hbb, tt, rfl, htt⟩ := prs_at pr4 hx
              refine ⟨tt, _, rfl, SqT.of (s6 _ _ (s5 _ _ htt)), rfl, _, _, rfl, _, _, rfl, rfl, rfl, iteT (B := True) ⟨_, rfl, _, hD6, small1000 (by rw [List.length_map, List.length_map, List.length_take]; omega), same_upd2 s6 hD3', ?_⟩⟩
              rw [upd_same, List.take_add_one, hbb, List.map_append, List.map_append]
              rfl
            · obtain ⟨s6, hD6⟩ := h
              rw [List.take_of_length_le (by omega)] at hD6
              refine ⟨D3, _, rfl, SqL.of hD6, by rw [List.length_map]; exact lb0, fun mx mx1 mx2 => ?_⟩
              refine ⟨_, _, rfl, rfl, (by show 2 ≤ sizeLine; decide), fun u hu => ?_⟩
              obtain ⟨lo, hi, elo, ehi, hb⟩ := Bd.step bp3 mn1 mn2 mx1 mx2
              have hut : (upd H6 u (.tup [V.int (1 + mn), V.int (1 + mx)])) u = some (.tup [.int (lo : Int), .int (hi : Int)]) := by rw [upd_same, elo, ehi]
              obtain ⟨a1, H7, e1, e2, b, v, e3, e4, e5⟩ := put _ u lo hi ((s5.trans s6).trans (same_new hu)) hut hb
              exact ⟨.ref kd, rfl, .ref t, rfl, a1, H7, e1, e2, .ref kd, rfl, .ref t, rfl, b, v, e3, e4, e5⟩
    · refine itN (by rw [hv]; simp) ?_
      exact ⟨.ref kd, rfl, .ref t, rfl, kd, v, rfl, hv ▸ DGet.t hkd ht1, by rw [ev]; exact q H1 tt lo hi (Same.sx s1) ⟨kvs, ks, hkd, pk, ndk, rk⟩ htt hb⟩
theorem ok_bounds {f : Addr} {fd : FuncData} (F : Fun K "bounds_of" "bounds_of" s_bounds_of f fd) (B : Blt mg) (c_evenings_of : Cal CX0 P w K mg base "evenings_of" ["row"] 1 (sp_evenings_of K))
    (c_behind : Cal CX0 P w K mg base "behind" ["row", "evening"] 1 (sp_behind K)) (gf : mg "bounds_of" = some (.ref f)) (kf : PySem.W.keepIn K (.ref f) = true) (bf : Binds K fd ["row", "known"] []) : ∀ m : Nat, FnOk P w K mg base CX0 (m + 1) f fd ["row", "known"] (sp_bounds m)
  | 0 => by
    have no : ∀ vs H Q E, ¬ sp_bounds 0 vs H Q E := fun vs H Q E h => by
      obtain ⟨a, kd, ns, _, _, _, h, _⟩ := h
      have := mz_nonneg ns
      omega
    exact ⟨fun vs H Q E h => (no _ _ _ _ h).elim, fun A outer s H args us vs Q E _ _ _ _ h => (no _ _ _ _ h).elim⟩
  | m + 1 => bounds_step F B c_evenings_of c_behind ⟨f, fd, ok_bounds F B c_evenings_of c_behind gf kf bf m, gf, kf, bf⟩
def sp_fewest_most : Sp := fun vs H Q _ => ∃ (a : Addr) (ns : Rw), vs = [.ref a] ∧ Lst H a ns ∧ Small ns ∧ mz ns < 2 * 91 ∧ ∀ H' t (lo hi : Nat), Same H H' → H' t = some (.tup [.int (lo : Int), .int (hi : Int)]) → Bd ns lo hi → Q (.ref t) H'
abbrev N_fewest_most : List Str := ["row"]
theorem ok_fewest_most {f : Addr} {fd : FuncData} {t1 t2 : Tok} (F : Fun K "fewest_most" "fewest_most" s_fewest_most f fd) (g_FEW : mg "FEW" = some (.int 5 t1)) (g_SMALL : mg "SMALL" = some (.int 20 t2))
    (c_check_row : Cal CX0 P w K mg base "check_row" ["row", "most", "greatest"] 2 sp_check_row) (c_bounds_of : Cal CX0 P w K mg base "bounds_of" ["row", "known"] 92 (sp_bounds 91)) : FnOk P w K mg base CX0 93 f fd ["row"] sp_fewest_most := by
  refine F.ok sc_fewest_most (fun vs H Q E h => ?_) (fun cdv A outer s H vs Q E hr h => ?_)
  · obtain ⟨a, ns, rfl, _⟩ := h
    rfl
  · obtain ⟨a, ns, rfl, hL, ok, hmz, q⟩ := h
    refine ⟨_, (pss_cons (ps_expr (pe_cal c_check_row hr (by rfl) (pa_cons (pv 0) (pa_cons (pe_glob (v := .int 5) (by rfl) g_FEW ⟨_, rfl⟩) (pa_cons (pe_glob (v := .int 20) (by rfl) g_SMALL ⟨_, rfl⟩) pa_nil)))))
    (pss_one (ps_ret (pe_cal c_bounds_of hr (by rfl) (pa_cons (pv 0) (pa_cons pe_dnewT pa_nil)))))), ?_⟩
    refine ⟨.ref a, rfl, a, ns, 5, 20, rfl, hL, by have := ok.len5; omega, ok, fun H1 s1 => ?_⟩
    refine ⟨.ref a, rfl, fun kd hkd => ?_⟩
    have s2 : Same H1 (upd H1 kd (.dT [])) := same_new hkd
    refine ⟨a, kd, ns, rfl, (hL.mono s1).mono s2, ok, hmz, ⟨[], [], upd_same, .nil, List.nodup_nil, fun _ h => nomatch h⟩, fun H2 t lo hi sx _ ht hb => ?_⟩
    exact q H2 t lo hi (s1.trans fun b o h => sx b o (ne_of_none h hkd) (s2 b o h)) ht hb
end
end EG

/-! ends: all settled rows that a row comes to. -/
namespace EG
open PySem L2
/-! ### lists of rows as data -/
def rowsD (L : List Rw) : PyData := .list (L.map rowD)
theorem eqv_rows : ∀ L M : List Rw, PyData.eqv (rowsD L) (rowsD M) = decide (L = M)
  | [], [] => by simp [rowsD, PyData.eqv, PyData.eqvAll]
  | [], _ :: _ => by simp [rowsD, PyData.eqv, PyData.eqvAll]
  | _ :: _, [] => by simp [rowsD, PyData.eqv, PyData.eqvAll]
  | p :: ps, q :: qs => by
    have ih := eqv_rows ps qs
    simp only [rowsD, PyData.eqv] at ih
    simp only [rowsD, PyData.eqv, PyData.eqvAll, List.map_cons, eqv_row, ih, List.cons.injEq]
    rw [Bool.decide_and]
theorem lay_rows : ∀ L : List Rw, PyData.canLayAll0 (L.map rowD) = true ∧ PyData.depthAll (L.map rowD) ≤ 1
  | [] => by simp [PyData.canLayAll0, PyData.depthAll]
  | p :: ps => by
    have ih := lay_rows ps
    have h1 : (rowD p).canLay0 = true := by simp only [rowD, PyData.canLay0]; exact (lay_ints p).1
    have h2 : (rowD p).depth ≤ 1 := by
      simp only [rowD, PyData.depth]
      have := (lay_ints p).2
      omega
    refine ⟨by simp [PyData.canLayAll0, ih.1, h1], ?_⟩
    simp only [List.map_cons, PyData.depthAll]
    omega
theorem shaped_rows (L : List Rw) : SeqAt.shaped (rowsD L) = true := by
  have h := lay_rows L
  unfold SeqAt.shaped
  rw [Bool.and_eq_true]
  refine ⟨by simp only [rowsD, PyData.canLay0]; exact h.1, decide_eq_true ?_⟩
  simp only [rowsD, PyData.depth]
  omega
theorem dpa_rows {K : PySem.W.Frag} {H : Hp} : ∀ {vs : List V} {L : List Rw}, Rows H vs L → DpAll K H vs (L.map rowD)
  | _, _, .nil => .nil
  | _, _, .cons ⟨_, e, h⟩ t => .cons (by rw [e]; exact dp_row (SqL.of h)) (dpa_rows t)
theorem dp_rows {K : PySem.W.Frag} {H : Hp} {a : Addr} {vs : List V} {L : List Rw} (h : SqL K H a vs) (r : Rows H vs L) : Dp K H (.ref a) (rowsD L) := .lst h (dpa_rows r)
/-- rows made since -/
def IsNw (H0 H : Hp) (v : V) (r : Rw) : Prop := ∃ b, v = .ref b ∧ Lst H b r ∧ H0 b = none
abbrev Nws (H0 H : Hp) : List V → List Rw → Prop := Paired (IsNw H0 H)
theorem IsNw.row {H0 H : Hp} {v : V} {r : Rw} (h : IsNw H0 H v r) : IsRow H v r := by
  obtain ⟨b, e, h, _⟩ := h
  exact ⟨b, e, h⟩
theorem IsNw.mono {H0 H H' : Hp} (s : Lsts H H') {v : V} {r : Rw} (h : IsNw H0 H v r) : IsNw H0 H' v r := by
  obtain ⟨b, e, h, n⟩ := h
  exact ⟨b, e, s _ _ h, n⟩
theorem Nws.mono {H0 H H' : Hp} (s : Lsts H H') {vs : List V} {L : List Rw} (h : Nws H0 H vs L) : Nws H0 H' vs L := Paired.mapP h fun _ _ q => q.mono s
theorem Nws.rows {H0 H : Hp} {vs : List V} {L : List Rw} (h : Nws H0 H vs L) : Rows H vs L := Paired.mapP h fun _ _ q => q.row
theorem pd_snoc {α β : Type} {F : α → β → Prop} : ∀ {ps : List β} {vs : List α} {p : β}, Paired F vs (ps ++ [p]) → ∃ ws v, vs = ws ++ [v] ∧ Paired F ws ps ∧ F v p
  | [], _, _, .cons h .nil => ⟨[], _, rfl, .nil, h⟩
  | _ :: ps, _, _, .cons h t => by
    obtain ⟨ws, v, e, h1, h2⟩ := pd_snoc (ps := ps) t
    exact ⟨_ :: ws, v, by rw [e]; rfl, .cons h h1, h2⟩
/-! ### the walk through all that come -/
structure EndI (ns : Rw) (M L Fd : List Rw) : Prop where
  nm : M.Nodup
  rm : ∀ x ∈ M, ∃ k, Rch ns k x
  st : ns ∈ M
  dn : ∀ r ∈ M, r ∈ L ∨ ((evs r = [] → r ∈ Fd) ∧ ∀ p ∈ evs r, behP r p ∈ M)
  nf : Fd.Nodup
  nl : L.Nodup
  lm : ∀ r ∈ L, r ∈ M ∧ r ∉ Fd
  fm : ∀ r ∈ Fd, r ∈ M ∧ evs r = []
structure EndJ (ns r : Rw) (j : Nat) (M L Fd : List Rw) : Prop where
  nm : M.Nodup
  rm : ∀ x ∈ M, ∃ k, Rch ns k x
  st : ns ∈ M
  dn : ∀ q ∈ M, q ∈ L ∨ q = r ∨ ((evs q = [] → q ∈ Fd) ∧ ∀ p ∈ evs q, behP q p ∈ M)
  nf : Fd.Nodup
  nl : L.Nodup
  lm : ∀ q ∈ L, q ∈ M ∧ q ∉ Fd
  fm : ∀ q ∈ Fd, q ∈ M ∧ evs q = []
  cm : r ∈ M
  cf : evs r = [] → r ∈ Fd
  kd : ∀ k p, k < j → (evs r)[k]? = some p → behP r p ∈ M
theorem nd_snoc {L : List Rw} {r : Rw} (h : L.Nodup) (n : r ∉ L) : (L ++ [r]).Nodup :=
  List.nodup_append.mpr ⟨h, List.nodup_cons.mpr ⟨List.not_mem_nil, List.nodup_nil⟩, fun x hx y hy e => n (by rw [List.mem_singleton] at hy; rw [← hy, ← e]; exact hx)⟩
theorem EndI.pop {ns r : Rw} {M L Fd : List Rw} (h : EndI ns M (L ++ [r]) Fd) : EndJ ns r 0 M L (if evs r = [] then Fd ++ [r] else Fd) := by
  obtain ⟨hr, hf⟩ := h.lm r (List.mem_append_right _ (List.mem_singleton.mpr rfl))
  obtain ⟨nL, _, dj⟩ := List.nodup_append.mp h.nl
  have nr : r ∉ L := fun z => dj r z r (List.mem_singleton.mpr rfl) rfl
  have sub : ∀ x ∈ Fd, x ∈ (if evs r = [] then Fd ++ [r] else Fd) := fun x hx => by
    split
    · exact List.mem_append_left _ hx
    · exact hx
  refine ⟨h.nm, h.rm, h.st, fun q hq => ?_, ?_, nL, fun q hq => ?_, fun q hq => ?_, hr, fun e => ?_, fun k p hk _ => absurd hk (by omega)⟩
  · rcases h.dn q hq with z | ⟨z1, z2⟩
    · rcases List.mem_append.mp z with z | z
      · exact .inl z
      · exact .inr (.inl (List.mem_singleton.mp z))
    · exact .inr (.inr ⟨fun e => sub q (z1 e), z2⟩)
  · split
    · exact nd_snoc h.nf hf
    · exact h.nf
  · obtain ⟨z1, z2⟩ := h.lm q (List.mem_append_left _ hq)
    refine ⟨z1, ?_⟩
    split
    · intro z
      rcases List.mem_append.mp z with z | z
      · exact z2 z
      · exact nr (by rw [← List.mem_singleton.mp z]; exact hq)
    · exact z2
  · split at hq
    · rename_i e
      rcases List.mem_append.mp hq with z | z
      · exact h.fm q z
      · rw [List.mem_singleton.mp z]
        exact ⟨hr, e⟩
    · exact h.fm q hq
  · rw [if_pos e]
    exact List.mem_append_right _ (List.mem_singleton.mpr rfl)
theorem EndJ.old {ns r : Rw} {j : Nat} {M L Fd : List Rw} {p : Pr} (h : EndJ ns r j M L Fd) (hp : (evs r)[j]? = some p) (c : behP r p ∈ M) : EndJ ns r (j + 1) M L Fd :=
  ⟨h.nm, h.rm, h.st, h.dn, h.nf, h.nl, h.lm, h.fm, h.cm, h.cf, fun k q hk hq => by
    by_cases e : k = j
    · subst e
      rw [hp] at hq
      cases hq
      exact c
    · exact h.kd k q (by omega) hq⟩
theorem EndJ.new {ns r : Rw} {j : Nat} {M L Fd : List Rw} {p : Pr} (h : EndJ ns r j M L Fd) (hp : (evs r)[j]? = some p) (c : behP r p ∉ M) : EndJ ns r (j + 1) (M ++ [behP r p]) (L ++ [behP r p]) Fd := by
  have up : ∀ x ∈ M, x ∈ M ++ [behP r p] := fun x hx => List.mem_append_left _ hx
  refine ⟨nd_snoc h.nm c, fun x hx => ?_, up _ h.st, fun q hq => ?_, h.nf, nd_snoc h.nl fun z => c (h.lm _ z).1, fun q hq => ?_, fun q hq => ⟨up _ (h.fm q hq).1, (h.fm q hq).2⟩, up _ h.cm, h.cf, fun k q hk hq => ?_⟩
  · rcases List.mem_append.mp hx with z | z
    · exact h.rm x z
    · obtain ⟨k, hk⟩ := h.rm r h.cm
      rw [List.mem_singleton.mp z]
      exact ⟨k + 1, .step hk (List.mem_of_getElem? hp)⟩
  · rcases List.mem_append.mp hq with z | z
    · rcases h.dn q z with z | z | ⟨z1, z2⟩
      · exact .inl (List.mem_append_left _ z)
      · exact .inr (.inl z)
      · exact .inr (.inr ⟨z1, fun p hp => up _ (z2 p hp)⟩)
    · exact .inl (List.mem_append_right _ z)
  · rcases List.mem_append.mp hq with z | z
    · exact ⟨up _ (h.lm q z).1, (h.lm q z).2⟩
    · refine ⟨List.mem_append_right _ z, fun z2 => ?_⟩
      rw [List.mem_singleton.mp z] at z2
      exact c (h.fm _ z2).1
  · by_cases e : k = j
    · subst e
      rw [hp] at hq
      cases hq
      exact List.mem_append_right _ (List.mem_singleton.mpr rfl)
    · exact up _ (h.kd k q (by omega) hq)
theorem EndJ.fin {ns r : Rw} {M L Fd : List Rw} (h : EndJ ns r (evs r).length M L Fd) : EndI ns M L Fd :=
  ⟨h.nm, h.rm, h.st, fun q hq => by
    rcases h.dn q hq with z | z | z
    · exact .inl z
    · refine .inr ⟨fun e => by rw [z]; exact h.cf (by rw [← z]; exact e), fun p hp => ?_⟩
      rw [z] at hp ⊢
      obtain ⟨k, hk⟩ := List.mem_iff_getElem?.mp hp
      exact h.kd k p (List.getElem?_eq_some_iff.mp hk).1 hk
    · exact .inr z, h.nf, h.nl, h.lm, h.fm⟩
def Stl (ns : Rw) (Fd : List Rw) : Prop := Fd.Nodup ∧ ∀ x, x ∈ Fd ↔ ∃ k, Rch ns k x ∧ evs x = []
theorem EndI.all {ns : Rw} {M Fd : List Rw} (h : EndI ns M [] Fd) : Stl ns Fd := by
  have dn : ∀ r ∈ M, (evs r = [] → r ∈ Fd) ∧ ∀ p ∈ evs r, behP r p ∈ M := fun r hr => by
    rcases h.dn r hr with z | z
    · cases z
    · exact z
  have all : ∀ k x, Rch ns k x → x ∈ M := fun k x hk => by
    induction hk with
    | zero => exact h.st
    | step hq hp ih => exact (dn _ ih).2 _ hp
  refine ⟨h.nf, fun x => ⟨fun hx => ?_, fun ⟨k, hk, e⟩ => (dn x (all k x hk)).1 e⟩⟩
  obtain ⟨hM, e⟩ := h.fm x hx
  obtain ⟨k, hk⟩ := h.rm x hM
  exact ⟨k, hk, e⟩
section
variable {P : Program} {w : World} {K : PySem.W.Frag} {mg : Str → Option Value} {base : Heap}
def sp_ends : Sp := fun vs H Q _ => ∃ (a : Addr) (ns : Rw), vs = [.ref a] ∧ Lst H a ns ∧ Small ns ∧
  ∀ H' p ys Fd, Same H H' → H p = none → H' p = some (.lst ys) → Nws H (hid H' [p]) ys (srt Fd) → Stl ns Fd → Q (.ref p) H'
abbrev N_ends : List Str := ["row", "found", "waiting", "met", "here", "some", "evening", "there"]
theorem ok_ends {f : Addr} {fd : FuncData} {t1 t2 : Tok} (F : Fun K "ends" "ends" s_ends f fd) (B : Blt mg) (g_FEW : mg "FEW" = some (.int 5 t1)) (g_SMALL : mg "SMALL" = some (.int 20 t2))
    (c_check_row : Cal CX0 P w K mg base "check_row" ["row", "most", "greatest"] 2 sp_check_row) (c_evenings_of : Cal CX0 P w K mg base "evenings_of" ["row"] 1 (sp_evenings_of K))
    (c_behind : Cal CX0 P w K mg base "behind" ["row", "evening"] 1 (sp_behind K)) : FnOk P w K mg base CX0 3 f fd ["row"] sp_ends := by
  refine F.ok sc_ends (fun vs H Q E h => ?_) (fun cdv A outer s H vs Q E hr h => ?_)
  · obtain ⟨a, ns, rfl, _⟩ := h
    rfl
  · obtain ⟨a, ns, rfl, hL, ok, q⟩ := h
    refine ⟨_, (pss_cons (ps_expr (pe_cal c_check_row hr (by rfl) (pa_cons (pv 0) (pa_cons (pe_glob (v := .int 5) (by rfl) g_FEW ⟨_, rfl⟩) (pa_cons (pe_glob (v := .int 20) (by rfl) g_SMALL ⟨_, rfl⟩) pa_nil)))))
    (pss_cons (ps_par3 (i := 1) (j := 2) (l := 3) rfl sc_ends.nd rfl rfl rfl (by decide) (by decide) (by decide) rfl rfl rfl (pa_cons (pe_lst pa_nil) (pa_cons (pe_lst (pa_cons (pe_callTy (r := rListOf K) call_list_of (by rfl) B.list PyProof.Rows.boot_list (pa_cons (pv 0) pa_nil)) pa_nil)) (pa_cons (pe_dispT (hu_of hr) (pe_callTy (r := rTupOf K) call_tuple_of (by rfl) B.tuple PyProof.Rows.boot_tuple (pa_cons (pv 0) pa_nil)) pe_bl) pa_nil))) (by rfl))
    (pss_cons (ps_while PassesOwn.never (pt_cmpR (r := rNeD K) (op_neD hr.units) (pv 2) (pe_lst pa_nil) (nomark _))
    (pss_cons (ps_set (i := 4) sc_ends.nd rfl (.inl rfl) (pe_bm0 PySem.F.plainAttrs_list PySem.F.slot_list_pop PySem.F.type_list_pop mt_pop (pv 2)))
      (pss_cons (ps_set (i := 5) sc_ends.nd rfl (.inl rfl) (pe_cal c_evenings_of hr (by rfl) (pa_cons (pv 4) pa_nil)))
      (pss_cons (ps_if (pt_cmpR (r := rEqD K) (op_eqD hr.units) (pv 5) (pe_lst pa_nil) (nomark _))
      (pss_one (ps_expr (pe_bm PySem.F.plainAttrs_list PySem.F.slot_list_append PySem.F.type_list_append mt_append (pv 1) (pa_cons (pv 4) pa_nil))))
      pss_nil)
      (pss_one (ps_for PassesOwn.never rfl (pi_list (pv 5)) (pg_name (i := 6) sc_ends.nd rfl (.inl rfl))
      (pss_cons (ps_set (i := 7) sc_ends.nd rfl (.inl rfl) (pe_cal c_behind hr (by rfl) (pa_cons (pv 4) (pa_cons (pv 6) pa_nil))))
        (pss_one (ps_if (pt_cmp (pc_dnotin (hu_of hr) (pe_callTy (r := rTupOf K) call_tuple_of (by rfl) B.tuple PyProof.Rows.boot_tuple (pa_cons (pv 7) pa_nil)) (pv 3)))
        (pss_cons (ps_dput (hu_of hr) (pv 3) (pe_callTy (r := rTupOf K) call_tuple_of (by rfl) B.tuple PyProof.Rows.boot_tuple (pa_cons (pv 7) pa_nil)) pe_bl rfl)
          (pss_one (ps_expr (pe_bm PySem.F.plainAttrs_list PySem.F.slot_list_append PySem.F.type_list_append mt_append (pv 2) (pa_cons (pv 7) pa_nil)))))
        pss_nil)))))))))
    (pss_one (ps_ret (pe_callB (cr_sortRows (room65 hr)) (by rfl) B.sorted PyProof.Rows.boot_sorted (pa_cons (pv 1) pa_nil))))))), ?_⟩
    refine ⟨.ref a, rfl, a, ns, 5, 20, rfl, hL, by have := ok.len5; omega, ok, fun H1 s1 => ?_⟩
    have hL1 := hL.mono s1
    refine ⟨Nat.zero_le _, fun fo hfo => ?_⟩
    have a1 : Same H1 (upd H1 fo (.lst [])) := same_new hfo
    have hfo2 : (upd H1 fo (.lst [])) fo = some (.lst []) := upd_same
    have hfoH : H fo = none := s1.free hfo
    generalize upd H1 fo (.lst []) = H2 at a1 hfo2
    refine ⟨.ref a, rfl, a, _, rfl, .inl (hL1.mono a1).sq, fun b0 hb0 => ?_⟩
    have a2 : Same H2 (upd H2 b0 (.lst (ns.map V.int))) := same_new hb0
    have hb02 : Lst (upd H2 b0 (.lst (ns.map V.int))) b0 ns := upd_same
    have hb0H : H b0 = none := (s1.trans a1).free hb0
    have nb0 : b0 ≠ fo := (ne_of_none hfo2 hb0).symm
    generalize upd H2 b0 (.lst (ns.map V.int)) = H3 at a2 hb02
    refine ⟨(by show 1 ≤ sizeLine; decide), fun wa hwa => ?_⟩
    have a3 : Same H3 (upd H3 wa (.lst [.ref b0])) := same_new hwa
    have hwa4 : (upd H3 wa (.lst [.ref b0])) wa = some (.lst [.ref b0]) := upd_same
    have hwaH : H wa = none := ((s1.trans a1).trans a2).free hwa
    have nbw : b0 ≠ wa := ne_of_none hb02 hwa
    have nfw : fo ≠ wa := ne_of_none (a2 _ _ hfo2) hwa
    have hfo4 := a3 _ _ (a2 _ _ hfo2)
    have hb04 := hb02.mono a3
    have s4 : Same H (upd H3 wa (.lst [.ref b0])) := ((s1.trans a1).trans a2).trans a3
    generalize upd H3 wa (.lst [.ref b0]) = H4 at a3 hwa4 hfo4 hb04 s4
    refine fun me hme => ?_
    have hmeH : H me = none := s4.free hme
    have a4 : Same H4 (upd H4 me (.dT [])) := same_new hme
    refine ⟨.ref a, rfl, a, _, rfl, .inl ⟨((hL.mono s4).mono a4).sq, fun t ht => ?_⟩⟩
    have a5 : Same (upd H4 me (.dT [])) (upd (upd H4 me (.dT [])) t (.tup (ns.map V.int))) := same_new ht
    have hme5 := a5 _ _ (show (upd H4 me (.dT [])) me = some (.dT []) from upd_same)
    refine ⟨t, rowKey ns, rfl, hme5, by rw [rowKey_V]; exact upd_same, _, _, _, rfl, ?_⟩
    have l6 : Lsts H4 (upd (upd (upd H4 me (.dT [])) t (.tup (ns.map V.int))) me (.dT [(rowKey ns, .bl true)])) := (Same.lsts (a4.trans a5)).trans (lsts_dT hme5)
    have s6 : Same H (upd (upd (upd H4 me (.dT [])) t (.tup (ns.map V.int))) me (.dT [(rowKey ns, .bl true)])) := same_upd2 ((s4.trans a4).trans a5) hmeH
    have hme6 : (upd (upd (upd H4 me (.dT [])) t (.tup (ns.map V.int))) me (.dT [(rowKey ns, .bl true)])) me = some (.dT (dRows [ns])) := upd_same
    generalize upd (upd (upd H4 me (.dT [])) t (.tup (ns.map V.int))) me (.dT [(rowKey ns, .bl true)]) = H6 at l6 s6 hme6
    refine ⟨fun m σ H' => ∃ fv wv Fd L M y4 y5 y6 y7, m + M.length = 4084102 + L.length ∧ σ = [some (.ref a), some (.ref fo), some (.ref wa), some (.ref me), y4, y5, y6, y7] ∧ Same H H' ∧ H' fo = some (.lst fv) ∧ H' wa = some (.lst wv) ∧
        H' me = some (.dT (dRows M)) ∧ Nws H (hid H' [fo, wa]) fv Fd ∧ Nws H (hid H' [fo, wa]) wv L ∧ EndI ns M L Fd,
      ⟨4084102, [], [.ref b0], [], [ns], [ns], none, none, none, none, rfl, rfl, s6, l6 _ _ hfo4, l6 _ _ hwa4, hme6, .nil, .cons ⟨b0, rfl, ?_, hb0H⟩ .nil, ?_⟩, fun m σ H7 h => ?_⟩
    · unfold Lst
      rw [hid_out (by simp [nb0, nbw])]
      exact l6 _ _ hb04
    · refine ⟨List.nodup_cons.mpr ⟨List.not_mem_nil, List.nodup_nil⟩, fun x hx => ?_, List.mem_singleton.mpr rfl, fun r hr => .inl hr, List.nodup_nil, List.nodup_cons.mpr ⟨List.not_mem_nil, List.nodup_nil⟩, fun r hr => ⟨hr, List.not_mem_nil⟩, fun r hr => nomatch hr⟩
      rw [List.mem_singleton.mp hx]
      exact ⟨0, .zero _⟩
    · obtain ⟨fv, wv, Fd, L, M, y4, y5, y6, y7, em, rfl, s7, hfo7, hwa7, hme7, nf7, nw7, ei⟩ := h
      refine ⟨.ref wa, rfl, Nat.zero_le _, fun z hz => ?_⟩
      have b1 : Same H7 (upd H7 z (.lst [])) := same_new hz
      have hs := Same.lsts (hid_same H7 [fo, wa])
      refine ⟨rowsD L, rowsD [], dp_rows (SqL.of (b1 _ _ hwa7)) ((nw7.mono hs).mono (Same.lsts b1)).rows, .lst (SqL.of upd_same) .nil, shaped_rows _, shaped_rows _, _, rfl, ?_⟩
      rw [eqv_rows]
      have s8 : Same H (upd H7 z (.lst [])) := s7.trans b1
      have hfo8 := b1 _ _ hfo7
      have hwa8 := b1 _ _ hwa7
      have hme8 := b1 _ _ hme7
      have nf8 := nf7.mono (Same.lsts (hid_mono (xs := [fo, wa]) b1))
      have nw8 := nw7.mono (Same.lsts (hid_mono (xs := [fo, wa]) b1))
      generalize upd H7 z (.lst []) = H8 at s8 hfo8 hwa8 hme8 nf8 nw8
      by_cases ce : L = []
      · subst ce
        refine itN (by simp) ?_
        refine ⟨.ref fo, rfl, fo, fv, Fd, _, rfl, SqL.of hfo8, nf8.mono (Same.lsts (hid_same _ _)), fun v r h => h.row, fun ys p hp pr => ?_⟩
        refine q _ p ys Fd (s8.trans (same_new hp)) (s8.free hp) upd_same (Paired.mapP pr fun v r h => ?_) ei.all
        obtain ⟨b, e, hb, nb⟩ := h
        refine ⟨b, e, ?_, nb⟩
        have nbp : b ≠ p := ne_of_none hb hp
        unfold Lst
        rw [hid_out (by simp [nbp]), upd_ne nbp]
        exact hb
      · refine itP (by rw [decide_eq_false ce]; rfl) ?_
        refine ⟨fun σ' H' => ∃ m', m' < m ∧ ∃ fv wv Fd L M y4 y5 y6 y7, m' + M.length = 4084102 + L.length ∧ σ' = [some (.ref a), some (.ref fo), some (.ref wa), some (.ref me), y4, y5, y6, y7] ∧ Same H H' ∧ H' fo = some (.lst fv) ∧ H' wa = some (.lst wv) ∧
          H' me = some (.dT (dRows M)) ∧ Nws H (hid H' [fo, wa]) fv Fd ∧ Nws H (hid H' [fo, wa]) wv L ∧ EndI ns M L Fd, fun σ' H' h => h, ?_⟩
        obtain ⟨L0, r, rfl⟩ : ∃ L0 r, L = L0 ++ [r] := ⟨L.dropLast, L.getLast ce, (List.dropLast_concat_getLast ce).symm⟩
        obtain ⟨w0, v, rfl, nw0, b, rfl, hb, hbH⟩ := pd_snoc nw8
        have cM := count_le ok ei.nm ei.rm
        -- pop
        refine ⟨.ref wa, rfl, .inl ⟨rfl, _, SqL.of hwa8⟩, wa, _, .ref b, rfl, rfl, hwa8, by simp, ?_⟩
        rw [List.dropLast_concat]
        have ls9 : Same (hid H8 [fo, wa]) (hid (upd H8 wa (.lst w0)) [fo, wa]) := by rw [hid_upd (by simp)]; exact Same.refl _
        have s9 : Same H (upd H8 wa (.lst w0)) := same_upd2 s8 hwaH
        have hwa9 : (upd H8 wa (.lst w0)) wa = some (.lst w0) := upd_same
        have hfo9 : (upd H8 wa (.lst w0)) fo = some (.lst fv) := by rw [upd_ne nfw]; exact hfo8
        have hme9 : (upd H8 wa (.lst w0)) me = some (.dT (dRows M)) := by rw [upd_ne (ne_of hme8 hwa8 (by intro z; cases z))]; exact hme8
        have nf9 := nf8.mono (Same.lsts ls9)
        have nw9 := Nws.mono (Same.lsts ls9) nw0
        have hb9 : Lst (hid (upd H8 wa (.lst w0)) [fo, wa]) b r := ls9 _ _ hb
        generalize upd H8 wa (.lst w0) = H9 at s9 hwa9 hfo9 hme9 nf9 nw9 hb9
        have hb9' : Lst H9 b r := hid_same _ _ _ _ hb9
        obtain ⟨k0, rch⟩ := ei.rm r (ei.lm r (List.mem_append_right _ (List.mem_singleton.mpr rfl))).1
        have okr : Small r := rch.ok ok
        have ej := ei.pop
        -- evenings
        refine ⟨.ref b, rfl, b, r, rfl, hb9'.sq, okr.row12, fun HA p we sA hp hwe pe => ?_⟩
        have lsA := Same.lsts (hid_mono (xs := [fo, wa]) sA)
        have sHA := s9.trans sA
        have hfoA := sA _ _ hfo9
        have hwaA := sA _ _ hwa9
        have hmeA := sA _ _ hme9
        have nfA := nf9.mono lsA
        have nwA := nw9.mono lsA
        have hbA : Lst (hid HA [fo, wa]) b r := lsA _ _ hb9
        have npf : p ≠ fo := (ne_of_none hfo9 hp).symm
        have npw : p ≠ wa := (ne_of_none hwa9 hp).symm
        refine ⟨.ref p, rfl, Nat.zero_le _, fun z2 hz2 => ?_⟩
        have sB : Same HA (upd HA z2 (.lst [])) := same_new hz2
        refine ⟨prsD (evs r), prsD [], dp_prs (SqL.of (sB _ _ hwe)) (pe.mono (Same.tups sB)), dp_prs (SqL.of upd_same) .nil, shaped_prs _, shaped_prs _, _, rfl, ?_⟩
        rw [eqv_prs]
        have lsB := Same.lsts (hid_mono (xs := [fo, wa]) sB)
        have sHB := sHA.trans sB
        have hfoB := sB _ _ hfoA
        have hwaB := sB _ _ hwaA
        have hmeB := sB _ _ hmeA
        have nfB := nfA.mono lsB
        have nwB := nwA.mono lsB
        have hbB : Lst (hid (upd HA z2 (.lst [])) [fo, wa]) b r := lsB _ _ hbA
        have hweB := sB _ _ hwe
        have peB := pe.mono (Same.tups sB)
        generalize upd HA z2 (.lst []) = HB at sHB hfoB hwaB hmeB nfB nwB hbB hweB peB
        have lF : fv.length = Fd.length := pd_len nfB
        have cF : Fd.length ≤ 4084101 := count_le ok ei.nf fun x hx => ei.rm x (ei.fm x hx).1
        obtain ⟨FdC, eFd⟩ : ∃ z, z = (if evs r = [] then Fd ++ [r] else Fd) := ⟨_, rfl⟩
        rw [← eFd] at ej
        rw [List.length_append] at em
        have em2 : m + M.length = 4084103 + L0.length := by
          have e1 : [r].length = 1 := rfl
          omega
        by_cases cv : evs r = []
        case' pos =>
          refine itP (decide_eq_true cv) ?_
          refine ⟨.ref fo, rfl, .inl ⟨rfl, _, SqL.of hfoB⟩, .ref b, rfl, fo, fv, _, rfl, rfl, hfoB, lineB (by omega), ?_⟩
          have eF2 : FdC = Fd ++ [r] := by rw [eFd, if_pos cv]
          have hh : hid (upd HB fo (.lst (fv ++ [.ref b]))) [fo, wa] = hid HB [fo, wa] := hid_upd (by simp)
          have sC : Same H (upd HB fo (.lst (fv ++ [.ref b]))) := same_upd2 sHB hfoH
          have hfoC : (upd HB fo (.lst (fv ++ [.ref b]))) fo = some (.lst (fv ++ [.ref b])) := upd_same
          have hwaC : (upd HB fo (.lst (fv ++ [.ref b]))) wa = some (.lst w0) := by rw [upd_ne nfw.symm]; exact hwaB
          have hmeC : (upd HB fo (.lst (fv ++ [.ref b]))) me = some (.dT (dRows M)) := by rw [upd_ne (ne_of hmeB hfoB (by intro z; cases z))]; exact hmeB
          have nfC : Nws H (hid (upd HB fo (.lst (fv ++ [.ref b]))) [fo, wa]) (fv ++ [.ref b]) FdC := by
            rw [hh, eF2]
            exact pd_app nfB (.cons ⟨b, rfl, hbB, hbH⟩ .nil)
          have nwC : Nws H (hid (upd HB fo (.lst (fv ++ [.ref b]))) [fo, wa]) w0 L0 := by
            rw [hh]
            exact nwB
          have hbC : Lst (hid (upd HB fo (.lst (fv ++ [.ref b]))) [fo, wa]) b r := by
            rw [hh]
            exact hbB
          have hweC : (upd HB fo (.lst (fv ++ [.ref b]))) p = some (.lst we) := by rw [upd_ne npf]; exact hweB
          have peC := peB.mono (tups_lst (o := .lst (fv ++ [.ref b])) hfoB)
          generalize fv ++ [.ref b] = fvC at *
          generalize upd HB fo (.lst fvC) = HC at *
        case' neg =>
          refine itN (by rw [decide_eq_false cv]; decide) ?_
          have eF2 : FdC = Fd := by rw [eFd, if_neg cv]
          have sC := sHB
          have hfoC := hfoB
          have hwaC := hwaB
          have hmeC := hmeB
          have nfC : Nws H (hid HB [fo, wa]) fv FdC := by rw [eF2]; exact nfB
          have nwC := nwB
          have hbC := hbB
          have hweC := hweB
          have peC := peB
          generalize fv = fvC at *
          generalize HB = HC at *
        all_goals
          refine ⟨.ref p, rfl, p, rfl, ⟨_, SqL.of hweC⟩, for_list (K := K) (a := p) (xs := we)
            (fun j σ H' => ∃ wv L M y6 y7, σ = [some (.ref a), some (.ref fo), some (.ref wa), some (.ref me), some (.ref b), some (.ref p), y6, y7] ∧ Same H H' ∧ H' fo = some (.lst fvC) ∧ H' wa = some (.lst wv) ∧ H' me = some (.dT (dRows M)) ∧
              Nws H (hid H' [fo, wa]) fvC FdC ∧ Nws H (hid H' [fo, wa]) wv L ∧ Lst (hid H' [fo, wa]) b r ∧ H' p = some (.lst we) ∧ Prs H' we (evs r) ∧ EndJ ns r j M L FdC ∧ m + M.length = 4084103 + L.length)
            ⟨w0, L0, M, _, _, rfl, sC, hfoC, hwaC, hmeC, nfC, nwC, hbC, hweC, peC, ej, em2⟩ (fun j σ H' _ h => ?_) (fun j x σ HD hx h => ?_) (fun σ HD h => ?_)⟩
          · obtain ⟨_, _, _, _, _, _, _, _, _, _, _, _, _, hpp, _⟩ := h
            exact SqL.of hpp
          · obtain ⟨wv, L, M, y6, y7, rfl, sD, hfoD, hwaD, hmeD, nfD, nwD, hbD, hpD, peD, ejD, emD⟩ := h
            obtain ⟨pp, hpp, tt, rfl, htt⟩ := prs_at peD hx
            have hpe := List.mem_of_getElem? hpp
            obtain ⟨i1, j1, epp, hij, hj1, hgd⟩ := mem_evs.mp hpe
            have hbD' : Lst HD b r := hid_same _ _ _ _ hbD
            refine ⟨.ref b, rfl, .ref tt, rfl, b, tt, r, i1, j1, rfl, hbD'.sq, ?_, by omega, hj1, okr.row12, fun HE th sE hth hTh => ?_⟩
            · rw [epp] at htt
              exact SqT.of htt
            have eb : beh r i1 j1 = behP r pp := by rw [epp]; rfl
            rw [eb] at hTh
            have cM2 : M.length ≤ 4084101 := count_le ok ejD.nm ejD.rm
            have nthf : th ≠ fo := (ne_of_none hfoD hth).symm
            have nthw : th ≠ wa := (ne_of_none hwaD hth).symm
            have hthH : H th = none := sD.free hth
            refine ⟨.ref th, rfl, th, _, rfl, .inl ⟨hTh.sq, fun t3 ht3 => ?_⟩⟩
            have sF : Same HE (upd HE t3 (.tup ((behP r pp).map V.int))) := same_new ht3
            have ht3F : (upd HE t3 (.tup ((behP r pp).map V.int))) t3 = some (.tup ((rowKey (behP r pp)).map kV)) := by rw [rowKey_V]; exact upd_same
            have sDF : Same HD (upd HE t3 (.tup ((behP r pp).map V.int))) := sE.trans sF
            have hThF := hTh.mono sF
            generalize upd HE t3 (.tup ((behP r pp).map V.int)) = HF at sF ht3F sDF hThF
            have hmeF := sDF _ _ hmeD
            have lsF := Same.lsts (hid_mono (xs := [fo, wa]) sDF)
            refine ⟨.ref me, rfl, me, _, rfl, DGet.t (k := rowKey (behP r pp)) hmeF ht3F, _, rfl, ?_⟩
            rw [val_dRows]
            by_cases cN : behP r pp ∈ M
            · refine itN (by rw [decide_eq_true cN]; decide) ?_
              exact ⟨wv, L, M, _, _, rfl, sD.trans sDF, sDF _ _ hfoD, sDF _ _ hwaD, hmeF, nfD.mono lsF, nwD.mono lsF, lsF _ _ hbD, sDF _ _ hpD, peD.mono (Same.tups sDF), ejD.old hpp cN, emD⟩
            · refine itP (by rw [decide_eq_false cN]; rfl) ?_
              refine ⟨.ref me, rfl, .ref th, rfl, th, _, rfl, .inl ⟨hThF.sq, fun t4 ht4 => ?_⟩⟩
              have sG : Same HF (upd HF t4 (.tup ((behP r pp).map V.int))) := same_new ht4
              refine ⟨me, _, rfl, DPut.t (k := rowKey (behP r pp)) (sG _ _ hmeF) (by rw [rowKey_V]; exact upd_same) (lineB (by rw [dRows_length]; omega)), ?_⟩
              rw [put_dRows]
              have hmeG := sG _ _ hmeF
              have sHG := (sD.trans sDF).trans sG
              have sDG := sDF.trans sG
              have hThG := hThF.mono sG
              generalize upd HF t4 (.tup ((behP r pp).map V.int)) = HG at hmeG sHG sDG hThG
              have lI : Lsts HG (upd HG me (.dT (dRows (ins M (behP r pp))))) := lsts_dT hmeG
              have tI : TupS HG (upd HG me (.dT (dRows (ins M (behP r pp))))) := tups_dT hmeG
              have sI : Same H (upd HG me (.dT (dRows (ins M (behP r pp))))) := same_upd2 sHG hmeH
              have hmeI : (upd HG me (.dT (dRows (ins M (behP r pp))))) me = some (.dT (dRows (ins M (behP r pp)))) := upd_same
              have eM : ins M (behP r pp) = M ++ [behP r pp] := if_neg cN
              rw [eM] at hmeI lI tI sI ⊢
              generalize upd HG me (.dT (dRows (M ++ [behP r pp]))) = HI at lI tI sI hmeI
              have lDI : Lsts HD HI := (Same.lsts sDG).trans lI
              have hwaI := lDI _ _ hwaD
              have hfoI := lDI _ _ hfoD
              have hThI : Lst HI th (behP r pp) := lI _ _ hThG
              have lwv : wv.length = L.length := pd_len nwD
              have cL : L.length ≤ 4084101 := count_le ok ejD.nl fun x hx => ejD.rm x (ejD.lm x hx).1
              refine ⟨.ref wa, rfl, .inl ⟨rfl, _, SqL.of hwaI⟩, .ref th, rfl, wa, wv, _, rfl, rfl, hwaI, lineB (by omega), ?_⟩
              have hh2 : hid (upd HI wa (.lst (wv ++ [.ref th]))) [fo, wa] = hid HI [fo, wa] := hid_upd (by simp)
              have lsI := hid_lsts (xs := [fo, wa]) lDI
              refine ⟨wv ++ [.ref th], L ++ [behP r pp], M ++ [behP r pp], _, _, rfl, same_upd2 sI hwaH, by rw [upd_ne nfw]; exact hfoI, upd_same, by rw [upd_ne (ne_of hmeI hwaI (by intro z; cases z))]; exact hmeI, ?_, ?_, ?_, by rw [upd_ne npw]; exact lDI _ _ hpD, (peD.mono ((Same.tups sDG).trans tI)).mono (tups_lst hwaI), ejD.new hpp cN, ?_⟩
              · rw [hh2]
                exact nfD.mono lsI
              · rw [hh2]
                refine pd_app (nwD.mono lsI) (.cons ⟨th, rfl, ?_, hthH⟩ .nil)
                unfold Lst
                rw [hid_out (by simp [nthf, nthw])]
                exact hThI
              · rw [hh2]
                exact lsI _ _ hbD
              · rw [List.length_append, List.length_append]
                show m + (M.length + 1) = 4084103 + (L.length + 1)
                omega
          · obtain ⟨wv, L, M, y6, y7, rfl, sD, hfoD, hwaD, hmeD, nfD, nwD, hbD, hpD, peD, ejD, emD⟩ := h
            rw [pd_len peD] at ejD
            exact ⟨m - 1, by omega, fvC, wv, FdC, L, M, _, _, _, _, by omega, rfl, sD, hfoD, hwaD, hmeD, nfD, nwD, ejD.fin⟩
end
end EG

/-! law_k04: what the law counts. -/
namespace EG
open PySem L2
def codeB (b : Nat) (r : Rw) : Nat := r.foldr (fun x a => x.toNat + b * a) 0
theorem codeB_lt {b : Nat} : ∀ {r : Rw}, (∀ x ∈ r, 0 ≤ x ∧ x < b) → codeB b r < b ^ r.length
  | [], _ => by show 0 < b ^ 0; rw [Nat.pow_zero]; decide
  | x :: r, h => by
    have h1 := h x List.mem_cons_self
    have ih := codeB_lt (r := r) fun y hy => h y (List.mem_cons_of_mem _ hy)
    show x.toNat + b * codeB b r < b ^ (r.length + 1)
    rw [Nat.pow_succ, Nat.mul_comm (b ^ r.length) b]
    have h2 : b * (codeB b r + 1) ≤ b * b ^ r.length := Nat.mul_le_mul_left b ih
    rw [Nat.mul_succ] at h2
    omega
theorem codeB_inj {b : Nat} : ∀ {r q : Rw}, r.length = q.length → (∀ x ∈ r, 0 ≤ x ∧ x < b) → (∀ x ∈ q, 0 ≤ x ∧ x < b) → codeB b r = codeB b q → r = q
  | [], [], _, _, _, _ => rfl
  | [], _ :: _, h, _, _, _ => by simp at h
  | _ :: _, [], h, _, _, _ => by simp at h
  | x :: r, y :: q, hl, hr, hq, e => by
    have h1 := hr x List.mem_cons_self
    have h2 := hq y List.mem_cons_self
    have e' : x.toNat + b * codeB b r = y.toNat + b * codeB b q := e
    have hb : 0 < b := by omega
    have e2 : codeB b r = codeB b q := by
      have z := congrArg (· / b) e'
      have x1 : x.toNat / b = 0 := Nat.div_eq_of_lt (by omega)
      have y1 : y.toNat / b = 0 := Nat.div_eq_of_lt (by omega)
      simp only [Nat.add_mul_div_left _ _ hb, x1, y1, Nat.zero_add] at z
      exact z
    have e1 : x = y := by rw [e2] at e'; omega
    rw [e1, codeB_inj (by simpa using hl) (fun z hz => hr z (List.mem_cons_of_mem _ hz)) (fun z hz => hq z (List.mem_cons_of_mem _ hz)) e2]
theorem countB {b n : Nat} {L : List Rw} (nd : L.Nodup) (h : ∀ r ∈ L, r.length = n ∧ ∀ x ∈ r, 0 ≤ x ∧ x < b) : L.length ≤ b ^ n := by
  have h1 : (L.map (codeB b)).length ≤ b ^ n := by
    refine nodup_lt _ _ ?_ ?_
    · rw [List.nodup_iff_pairwise_ne, List.pairwise_map]
      refine List.Pairwise.imp_of_mem ?_ (List.nodup_iff_pairwise_ne.mp nd)
      intro x y hx hy hne e
      exact hne (codeB_inj ((h x hx).1.trans (h y hy).1.symm) (h x hx).2 (h y hy).2 e)
    · intro x hx
      obtain ⟨r, hr, rfl⟩ := List.mem_map.mp hx
      have := codeB_lt (h r hr).2
      rwa [(h r hr).1] at this
  rwa [List.length_map] at h1
theorem sq_leG {g : Int} (hg : 0 ≤ g) : ∀ {ns : Rw}, (∀ x ∈ ns, 0 ≤ x ∧ x ≤ g) → sq ns ≤ g * g * ns.length
  | [], _ => by show sq [] ≤ g * g * ((0 : Nat) : Int); rw [show sq [] = 0 from rfl]; simp
  | x :: ns, h => by
    have ih := sq_leG hg (ns := ns) fun y hy => h y (List.mem_cons_of_mem _ hy)
    obtain ⟨h1, h2⟩ := h x List.mem_cons_self
    have h3 : x * x ≤ g * g := Int.mul_le_mul h2 h2 h1 hg
    show (List.map (fun x => x * x) (x :: ns)).sum ≤ g * g * (((x :: ns).length : Nat) : Int)
    unfold sq at ih
    rw [List.map_cons, List.sum_cons, List.length_cons, Int.natCast_add, Int.mul_add]
    generalize g * g = G at *
    have : G * ((1 : Nat) : Int) = G := by simp
    omega
/-- the law's own rows: how many come, how many levels -/
structure Few (ns : Rw) : Prop where
  lv : ∀ n, (lev ns n).length ≤ 28561
  sq : (EG.sq ns).toNat ≤ 576
theorem few_of {ns : Rw} {m g : Int} {fv : Int} (ok : RowOk ns m g) (hm : m = 4 + fv) (hg : g = 12 - 6 * fv) (h0 : 0 ≤ fv) (h1 : fv ≤ 1) : Few ns := by
  have key : ∀ (b n : Nat), ns.length ≤ n → (∀ x ∈ ns, 0 ≤ x ∧ x < b) → 0 < b → b ^ n ≤ 28561 → ∀ k, (lev ns k).length ≤ 28561 := fun b n hn hb b0 hp k => by
    have h := countB (b := b) (n := ns.length) (nd_lev ns k) fun r hr => by
      have rch := mem_lev.mp hr
      have okr : RowOk r ns.length ((b : Int) - 1) := rch.ok ⟨ok.1, Int.le_refl _, fun x hx => ⟨(hb x hx).1, by have := (hb x hx).2; omega⟩⟩
      exact ⟨rch.len, fun x hx => ⟨(okr.2.2 x hx).1, by have := (okr.2.2 x hx).2; omega⟩⟩
    exact Nat.le_trans h (Nat.le_trans (Nat.pow_le_pow_right b0 hn) hp)
  have hl := ok.2.1
  have h3 := ok.2.2
  have q := sq_leG (g := g) (by omega) h3
  by_cases c : fv = 0
  · subst c
    have eg : g = 12 := by omega
    subst eg
    exact ⟨key 13 4 (by omega) (fun x hx => ⟨(h3 x hx).1, by have := (h3 x hx).2; omega⟩) (by decide) (by decide), by omega⟩
  · have c1 : fv = 1 := by omega
    subst c1
    have eg : g = 6 := by omega
    subst eg
    exact ⟨key 7 5 (by omega) (fun x hx => ⟨(h3 x hx).1, by have := (h3 x hx).2; omega⟩) (by decide) (by decide), by omega⟩
/-- what has been counted by then -/
structure Ctd (ns : Rw) (i : Nat) (T : List Rw) (N : List Rw) (cs : List Int) : Prop where
  nd : N.Nodup
  nr : ∀ x ∈ N, ∃ k, Rch ns k x ∧ evs x = []
  al : ∀ k x, k < i → Rch ns k x → evs x = [] → x ∈ N ∧ (k : Int) ∈ cs
  tl : ∀ x ∈ T, evs x = [] → x ∈ N ∧ (i : Int) ∈ cs
  cr : ∀ c ∈ cs, ∃ (k : Nat) (x : Rw), c = (k : Int) ∧ Rch ns k x ∧ evs x = []
  ln : cs.length ≤ i * 28561 + T.length
theorem Ctd.zero (ns : Rw) : Ctd ns 0 [] [] [] := ⟨List.nodup_nil, fun _ h => (nomatch h), fun k _ h => absurd h (by omega), fun _ h => (nomatch h), fun _ h => (nomatch h), Nat.zero_le _⟩
theorem Ctd.old {ns r : Rw} {i : Nat} {T N : List Rw} {cs : List Int} (h : Ctd ns i T N cs) (e : evs r ≠ []) : Ctd ns i (T ++ [r]) N cs :=
  ⟨h.nd, h.nr, h.al, fun x hx ex => by
    rcases List.mem_append.mp hx with z | z
    · exact h.tl x z ex
    · rw [List.mem_singleton.mp z] at ex
      exact absurd ex e, h.cr, by have := h.ln; rw [List.length_append]; omega⟩
theorem Ctd.new {ns r : Rw} {i : Nat} {T N : List Rw} {cs : List Int} (h : Ctd ns i T N cs) (rr : Rch ns i r) (e : evs r = []) : Ctd ns i (T ++ [r]) (ins N r) (cs ++ [(i : Int)]) := by
  refine ⟨nd_ins h.nd, fun x hx => ?_, fun k x hk hx ex => ?_, fun x hx ex => ?_, fun c hc => ?_, ?_⟩
  · rcases mem_ins.mp hx with z | z
    · exact h.nr x z
    · rw [z]
      exact ⟨i, rr, e⟩
  · obtain ⟨h1, h2⟩ := h.al k x hk hx ex
    exact ⟨mem_ins.mpr (.inl h1), List.mem_append_left _ h2⟩
  · rcases List.mem_append.mp hx with z | z
    · obtain ⟨h1, h2⟩ := h.tl x z ex
      exact ⟨mem_ins.mpr (.inl h1), List.mem_append_left _ h2⟩
    · exact ⟨mem_ins.mpr (.inr (List.mem_singleton.mp z)), List.mem_append_right _ (List.mem_singleton.mpr rfl)⟩
  · rcases List.mem_append.mp hc with z | z
    · exact h.cr c z
    · exact ⟨i, r, List.mem_singleton.mp z, rr, e⟩
  · have := h.ln
    rw [List.length_append, List.length_append]
    show cs.length + 1 ≤ _ + (T.length + 1)
    omega
theorem Ctd.next {ns : Rw} {i : Nat} {N : List Rw} {cs : List Int} (h : Ctd ns i (lev ns i) N cs) (f : Few ns) : Ctd ns (i + 1) [] N cs :=
  ⟨h.nd, h.nr, fun k x hk hx ex => by
    by_cases e : k = i
    · rw [e] at hx ⊢
      exact h.tl x (mem_lev.mpr hx) ex
    · exact h.al k x (by omega) hx ex, fun _ h => (nomatch h), h.cr, by
      have := h.ln
      have := f.lv i
      show cs.length ≤ (i + 1) * 28561 + 0
      omega⟩
theorem lev_past {ns : Rw} {n : Nat} (h : lev ns n = []) : ∀ {k : Nat}, n ≤ k → lev ns k = [] := by
  have emp : ∀ j, lev ns (n + j) = [] := by
    intro j
    induction j with
    | zero => exact h
    | succ j ih =>
      show nextL (lev ns (n + j)) = []
      rw [ih]; rfl
  intro k hk
  rw [show k = n + (k - n) by omega, emp]
theorem Ctd.all {ns : Rw} {n : Nat} {N : List Rw} {cs : List Int} (h : Ctd ns n [] N cs) (e : lev ns n = []) : Stl ns N ∧ ∀ k x, Rch ns k x → evs x = [] → (k : Int) ∈ cs := by
  have a : ∀ k x, Rch ns k x → k < n := fun k x hk => by
    apply Classical.byContradiction
    intro z
    have := mem_lev.mpr hk
    rw [lev_past e (by omega)] at this
    cases this
  exact ⟨⟨h.nd, fun x => ⟨h.nr x, fun ⟨k, hk, ex⟩ => (h.al k x (a k x hk) hk ex).1⟩⟩, fun k x hk ex => (h.al k x (a k x hk) hk ex).2⟩
/-- the fewest and the most, by the counts -/
structure Cts (ns : Rw) (cs : List Int) : Prop where
  al : ∀ k x, Rch ns k x → evs x = [] → (k : Int) ∈ cs
  cr : ∀ c ∈ cs, ∃ (k : Nat) (x : Rw), c = (k : Int) ∧ Rch ns k x ∧ evs x = []
theorem Cts.min {ns : Rw} {cs : List Int} (h : Cts ns cs) {lo hi : Nat} (b : Bd ns lo hi) {m : Int} (m1 : m ∈ cs) (m2 : ∀ y ∈ cs, m ≤ y) : m = lo := by
  obtain ⟨⟨x, hx, ex⟩, _, b3⟩ := b
  obtain ⟨k, y, rfl, hy, ey⟩ := h.cr m m1
  have := b3 k y hy ey
  have := m2 _ (h.al lo x hx ex)
  omega
theorem Cts.max {ns : Rw} {cs : List Int} (h : Cts ns cs) {lo hi : Nat} (b : Bd ns lo hi) {m : Int} (m1 : m ∈ cs) (m2 : ∀ y ∈ cs, y ≤ m) : m = hi := by
  obtain ⟨_, ⟨x, hx, ex⟩, b3⟩ := b
  obtain ⟨k, y, rfl, hy, ey⟩ := h.cr m m1
  have := b3 k y hy ey
  have := m2 _ (h.al hi x hx ex)
  omega
theorem Cts.pos {ns : Rw} {cs : List Int} (h : Cts ns cs) {lo hi : Nat} (b : Bd ns lo hi) : 0 < cs.length := by
  obtain ⟨⟨x, hx, ex⟩, _⟩ := b
  exact List.length_pos_of_mem (h.al lo x hx ex)
theorem Bd.rev {ns : Rw} {lo hi : Nat} (b : Bd ns.reverse lo hi) : Bd ns lo hi := by
  obtain ⟨⟨x, hx, ex⟩, ⟨y, hy, ey⟩, b3⟩ := b
  refine ⟨⟨_, Rch.rev_iff.mp hx, evs_rev_iff.mpr ex⟩, ⟨_, Rch.rev_iff.mp hy, evs_rev_iff.mpr ey⟩, fun k z hz ez => b3 k z.reverse hz.rev (evs_rev_iff.mpr ez)⟩
theorem Stl.same {ns : Rw} {A B : List Rw} (a : Stl ns A) (b : Stl ns B) : srt A = srt B := srt_same a.1 b.1 fun x => (a.2 x).trans (b.2 x).symm
theorem Stl.rev {ns : Rw} {A : List Rw} (a : Stl ns A) : Stl ns.reverse ((srt A).map List.reverse) := by
  refine ⟨?_, fun x => ?_⟩
  · rw [List.nodup_iff_pairwise_ne, List.pairwise_map]
    refine (List.nodup_iff_pairwise_ne.mp (srt_nodup a.1)).imp ?_
    intro x y h e
    exact h (List.reverse_inj.mp e)
  · rw [List.mem_map]
    constructor
    · rintro ⟨y, hy, rfl⟩
      obtain ⟨k, hk, e⟩ := (a.2 y).mp (mem_srt.mp hy)
      exact ⟨k, hk.rev, evs_rev_iff.mpr e⟩
    · rintro ⟨k, hk, e⟩
      exact ⟨x.reverse, mem_srt.mpr ((a.2 _).mpr ⟨k, Rch.rev_iff.mp hk, evs_rev_iff.mpr e⟩), List.reverse_reverse x⟩
theorem srt_of {F E : List Rw} (p : F.Perm E) (o : E.Pairwise fun a b => decide (a ≤ b) = true) : srt F = E :=
  ((srt_perm F).trans p).eq_of_pairwise (fun a b _ _ h1 h2 => List.le_antisymm (of_decide_eq_true h1) (of_decide_eq_true h2)) (List.pairwise_mergeSort srt_le_trans srt_le_total F) o
theorem stl_ground {ns : Rw} {F E : List Rw} (n : Nat) (s : Stl ns F) (e : lev ns n = []) (h1 : ∀ k < n, ∀ x ∈ lev ns k, evs x = [] → x ∈ E) (h2 : ∀ x ∈ E, evs x = [] ∧ ∃ k, k < n ∧ x ∈ lev ns k) (nd : E.Nodup)
    (o : E.Pairwise fun a b => decide (a ≤ b) = true) : srt F = E := by
  refine srt_of (perm_of_mem s.1 nd fun x => (s.2 x).trans ⟨?_, ?_⟩) o
  · rintro ⟨k, hk, ex⟩
    by_cases c : k < n
    · exact h1 k c x (mem_lev.mpr hk) ex
    · have := mem_lev.mpr hk
      rw [lev_past e (by omega)] at this
      cases this
  · intro hx
    obtain ⟨ex, k, _, hk⟩ := h2 x hx
    exact ⟨k, mem_lev.mp hk, ex⟩
theorem bd_ground {ns : Rw} {lo hi : Nat} (a b n : Nat) (s : Bd ns lo hi) (e : lev ns n = []) (h1 : ∀ k < n, ∀ x ∈ lev ns k, evs x = [] → a ≤ k ∧ k ≤ b) (h2 : ∃ x ∈ lev ns a, evs x = []) (h3 : ∃ x ∈ lev ns b, evs x = []) : lo = a ∧ hi = b := by
  obtain ⟨⟨x, hx, ex⟩, ⟨y, hy, ey⟩, b3⟩ := s
  obtain ⟨u, hu, eu⟩ := h2
  obtain ⟨v, hv, ev⟩ := h3
  have lt : ∀ k z, Rch ns k z → k < n := fun k z hk => by
    apply Classical.byContradiction
    intro c
    have := mem_lev.mpr hk
    rw [lev_past e (by omega)] at this
    cases this
  have g1 := b3 a u (mem_lev.mp hu) eu
  have g2 := b3 b v (mem_lev.mp hv) ev
  have g3 := h1 lo (lt _ _ hx) x (mem_lev.mpr hx) ex
  have g4 := h1 hi (lt _ _ hy) y (mem_lev.mpr hy) ey
  omega
theorem gr1 : lev [0, 0, 3] 1 = [] := by decide
theorem gr2 : lev [0, 1, 2] 2 = [] := by decide
theorem gr3 : lev [0, 2] 2 = [] := by decide
theorem gr4 : lev [0, 4, 6] 4 = [] := by decide
end EG

/-! law_k04: the law's own body. -/
namespace EG
open PySem L2
theorem pe_revLK {X : Cx} {K : PySem.W.Frag} (hK : X.K = K) {e : Expr} {te : TE} {k : Nat} {p1 p2 p3 pos : Pos} (he : PE X e te) : PE X (.Subscript e (.Slice none none (some (.UnaryOp .USub (.Constant (.int 1) k p1) p2)) p3) pos) (tRevL K te) := by
  subst hK
  exact pe_revL he
theorem isLv_hid {H : Hp} {co : Addr} (hco : H co = some (.lst [])) {v : V} {L : List Rw} (h : IsLv H v L) (hL : L ≠ []) (hr : ∀ r ∈ L, r ≠ []) : IsLv (hid H [co]) v L := by
  obtain ⟨b, ws, e, hb, rw'⟩ := h
  have lw := pd_len rw'
  have nb : b ≠ co := fun z => by
    rw [z, hco] at hb
    have : ws = [] := by cases hb; rfl
    rw [this] at lw
    exact hL (List.length_eq_zero_iff.mp lw.symm)
  refine ⟨b, ws, e, by rw [hid_out (by simp [nb])]; exact hb, ?_⟩
  clear lw hb nb hL
  induction rw' with
  | nil => exact .nil
  | cons h t ih =>
    obtain ⟨c, e2, hc⟩ := h
    refine .cons ⟨c, e2, ?_⟩ (ih fun r hr' => hr r (List.mem_cons_of_mem _ hr'))
    have nc : c ≠ co := fun z => by
      unfold Lst at hc
      rw [z, hco] at hc
      have h0 := HO.lst.inj (Option.some.inj hc)
      exact hr _ List.mem_cons_self (List.map_eq_nil_iff.mp h0.symm)
    unfold Lst
    rw [hid_out (by simp [nc])]
    exact hc
section
variable {P : Program} {w : World} {K : PySem.W.Frag} {mg : Str → Option Value} {base : Heap}
def sp_law (K : PySem.W.Frag) : Sp := fun vs H Q _ => ∃ (a : Addr) (ns : List Int), vs = [.ref a] ∧ SqL K H a (ns.map V.int) ∧ ns.length ≤ 63 ∧ (∀ z ∈ ns, bits z ≤ 1048576) ∧ ∀ H', Q (.bl true) H'
abbrev N_law : List Str := ["_law_script", "_law_by", "_law_five", "_law_row_here", "_law_handed", "_law_last", "_law_counts", "_law_many", "_law_line", "_law_some", "_law_due", "_law_again", "_law_found", "_law_bounds", "_law_one"]
theorem ok_law {f : Addr} {fd : FuncData} (F : Fun K "law" "law" s_law f fd) (B : Blt mg) (c_ends : Cal CX0 P w K mg base "ends" ["row"] 3 sp_ends) (c_fewest_most : Cal CX0 P w K mg base "fewest_most" ["row"] 93 sp_fewest_most)
    (c_l_row : Cal CX0 P w K mg base "_law_row" ["_law_script", "_law_by", "_law_most", "_law_greatest"] 3 (sp_row K))
    (c_l_value : Cal CX0 P w K mg base "_law_value" ["_law_cell", "_law_turn"] 2 sp_value) (c_l_cell_at : Cal CX0 P w K mg base "_law_cell_at" ["_law_script", "_law_k"] 1 (sp_cell_at K))
    (c_l_can : Cal CX0 P w K mg base "_law_can" ["_law_row_here"] 1 (sp_can K)) (c_l_levels : Cal CX0 P w K mg base "_law_levels" ["_law_row_here"] 2 (sp_levels K)) (c_l_whole : Cal CX0 P w K mg base "_law_whole" ["_law_number"] 1 (sp_l_whole K)) :
    FnOk P w K mg base CX0 94 f fd ["_law_script"] (sp_law K) := by
  refine F.ok sc_law (fun vs H Q E h => ?_) (fun cdv A outer s H vs Q E hr h => ?_)
  · obtain ⟨a, ns, rfl, _⟩ := h
    rfl
  · obtain ⟨a, ns, rfl, hS, hl, hb, q⟩ := h
    refine ⟨_, (pss_cons (ps_set (i := 0) sc_law.nd rfl (.inl rfl) (pe_slice (r := rSlL K) sl_list (pv 0) po_none (po_some pe_int)))
    (pss_cons (ps_for PassesOwn.never rfl (pi_range2 (by rfl) B.range (pa_cons pe_int (pa_cons (pe_callB (call_max2 rfl) (by rfl) B.max PyProof.Rows.boot_max (pa_cons pe_int (pa_cons (pe_callB (call_min2 rfl) (by rfl) B.min PyProof.Rows.boot_min (pa_cons pe_int (pa_cons (pe_callB (r := rLenS K) call_len_seq (by rfl) B.len PySem.boot_len (pa_cons (pv 0) pa_nil)) pa_nil))) pa_nil))) pa_nil))) (pg_name (i := 1) sc_law.nd rfl (.inl rfl))
    (pss_cons (ps_set (i := 2) sc_law.nd rfl (.inl rfl) (pe_op op_fdiv (pe_op op_mod (pe_cal c_l_value hr (by rfl) (pa_cons (pe_cal c_l_cell_at hr (by rfl) (pa_cons (pv 0) (pa_cons (pv 1) pa_nil))) (pa_cons pe_int pa_nil))) pe_int) pe_int))
      (pss_cons (ps_set (i := 3) sc_law.nd rfl (.inr rfl) (pe_cal c_l_row hr (by rfl) (pa_cons (pv 0) (pa_cons (pv 1) (pa_cons (pe_op op_add pe_int (pv 2)) (pa_cons (pe_op op_sub pe_int (pe_op op_mul pe_int (pv 2))) pa_nil))))))
      (pss_cons (ps_par3 (i := 4) (j := 5) (l := 6) rfl sc_law.nd rfl rfl rfl (by decide) (by decide) (by decide) rfl rfl rfl (pa_cons (pe_callTy (r := rListOf K) call_list_of (by rfl) B.list PyProof.Rows.boot_list (pa_cons (pv 3) pa_nil)) (pa_cons pe_dnewT (pa_cons (pe_lst pa_nil) pa_nil))) (by rfl))
      (pss_cons (ps_for PassesOwn.never rfl (pi_enum (by rfl) B.enum (pa_cons (pe_cal c_l_levels hr (by rfl) (pa_cons (pv 3) pa_nil)) pa_nil)) (pg_tup rfl (pgs_cons (pg_name (i := 7) sc_law.nd rfl (.inl rfl)) (pgs_cons (pg_name (i := 8) sc_law.nd rfl (.inl rfl)) pgs_nil)))
      (pss_one (ps_for PassesOwn.never rfl (pi_list (pv 8)) (pg_name (i := 9) sc_law.nd rfl (.inl rfl))
        (pss_one (ps_if (pt_cmpR (r := rEqD K) (op_eqD hr.units) (pe_cal c_l_can hr (by rfl) (pa_cons (pv 9) pa_nil)) (pe_lst pa_nil) (nomark _))
          (pss_cons (ps_dput (hu_of hr) (pv 5) (pe_callTy (r := rTupOf K) call_tuple_of (by rfl) B.tuple PyProof.Rows.boot_tuple (pa_cons (pv 9) pa_nil)) pe_bl rfl)
            (pss_one (ps_expr (pe_bm PySem.F.plainAttrs_list PySem.F.slot_list_append PySem.F.type_list_append mt_append (pv 6) (pa_cons (pv 7) pa_nil)))))
          pss_nil)))))
      (pss_cons (ps_set (i := 10) sc_law.nd rfl (.inl rfl) (pe_callB (r := rSortRows K) (cr_sortRows (room65 hr)) (by rfl) B.sorted PyProof.Rows.boot_sorted (pa_cons (pe_lock (pe_lc (own := [("_law_some", 9)]) (g := gName 9) (tt := tYes) rfl sc_law.nd (pi_keys (pv 5)) (blkOk_by (N := N_law) (sc := defScope s_law) (by decide +kernel)) (fun _ _ _ _ _ => (pg_name (i := 9) sc_law.nd rfl (.inl rfl))) (fun _ _ _ _ _ => pts_nil) (fun _ _ _ _ _ => (pe_callTy (r := rListOf K) call_list_of (by rfl) B.list PyProof.Rows.boot_list (pa_cons (pv 9) pa_nil))))) pa_nil)))
      (pss_cons (ps_for PassesOwn.never rfl (pi_range1 (by rfl) B.range (pa_cons pe_int pa_nil)) (pg_name (i := 11) sc_law.nd rfl (.inl rfl))
      (pss_cons (ps_par (i := 12) (j := 13) rfl sc_law.nd rfl rfl (by decide) rfl rfl (pa_cons (pe_cal c_ends hr (by rfl) (pa_cons (pv 4) pa_nil)) (pa_cons (pe_cal c_fewest_most hr (by rfl) (pa_cons (pv 4) pa_nil)) pa_nil)) (by rfl))
        (pss_cons (ps_if (PW.pt (pw_or (pt_not (pt_val (pe_callB (r := rIsi K) call_isi (by rfl) B.isi PyProof.Rows.boot_isinstance (pa_cons (pv 12) (pa_cons (pe_bltn (v := .ty "list") (by rfl) B.list PyProof.Rows.boot_list rfl) pa_nil))))) (pw_or (pt_cmpR (r := rNeD K) (op_neD hr.units) (pv 12) (pv 10) (nomark _)) (pw_or1 (pt_cmpR (r := rNeD K) (op_neD hr.units) (pv 4) (pv 3) (nomark _))))))
        (pss_one (ps_ret pe_bl))
        pss_nil)
        (pss_cons (ps_if (PW.pt (pw_or (pt_not (pt_val (pe_callB (r := rIsi K) call_isi (by rfl) B.isi PyProof.Rows.boot_isinstance (pa_cons (pv 13) (pa_cons (pe_bltn (v := .ty "tuple") (by rfl) B.tuple PyProof.Rows.boot_tuple rfl) pa_nil))))) (pw_or1 (pt_cmpR (r := rNeD K) (op_neD hr.units) (pv 13) (pe_tup (pa_cons (pe_callB (r := rMin K) (cr_min rfl) (by rfl) B.min PyProof.Rows.boot_min (pa_cons (pv 6) pa_nil)) (pa_cons (pe_callB (r := rMax K) (cr_max rfl) (by rfl) B.max PyProof.Rows.boot_max (pa_cons (pv 6) pa_nil)) pa_nil))) (nomark _)))))
        (pss_one (ps_ret pe_bl))
        pss_nil)
        (pss_cons (ps_if (PW.pt (pw_or (pt_not (pt_val (pe_callB (r := rAll K) (cr_all rfl) (by rfl) B.all PyProof.Rows.boot_all (pa_cons (pe_lc (own := [("_law_one", 14)]) (g := gName 14) (tt := tYes) rfl sc_law.nd (pi_tup (pv 13)) (blkOk_by (N := N_law) (sc := defScope s_law) (by decide +kernel)) (fun _ _ _ _ _ => (pg_name (i := 14) sc_law.nd rfl (.inl rfl))) (fun _ _ _ _ _ => pts_nil) (fun _ _ _ _ _ => (pe_cal c_l_whole hr (by rfl) (pa_cons (pv 14) pa_nil)))) pa_nil)))) (pw_or1 (pt_val (pe_callB (r := rAny K) (cr_any rfl) (by rfl) B.any PyProof.Rows.boot_any (pa_cons (pe_lc (own := [("_law_some", 9)]) (g := gName 9) (tt := tYes) rfl sc_law.nd (pi_list (pv 12)) (blkOk_by (N := N_law) (sc := defScope s_law) (by decide +kernel)) (fun _ _ _ _ _ => (pg_name (i := 9) sc_law.nd rfl (.inl rfl))) (fun _ _ _ _ _ => pts_nil) (fun _ _ _ _ _ => (pe_cmpR op_ne (pe_callB (r := rSum K) (cr_sum rfl) (by rfl) B.sum PyProof.Rows.boot_sum (pa_cons (pv 9) pa_nil)) (pe_callB (r := rSum K) (cr_sum rfl) (by rfl) B.sum PyProof.Rows.boot_sum (pa_cons (pv 3) pa_nil)) (nomark _)))) pa_nil))))))
        (pss_one (ps_ret pe_bl))
        pss_nil)
        (pss_cons (ps_for PassesOwn.never rfl (pi_list (pv 12)) (pg_name (i := 9) sc_law.nd rfl (.inl rfl))
        (pss_one (ps_expr (pe_bm PySem.F.plainAttrs_list PySem.F.slot_list_append PySem.F.type_list_append mt_append (pv 9) (pa_cons pe_int pa_nil)))))
        (pss_one (ps_expr (pe_bm PySem.F.plainAttrs_list PySem.F.slot_list_append PySem.F.type_list_append mt_append (pv 12) (pa_cons (pe_lst pa_nil) pa_nil))))))))))
      (pss_cons (ps_expr (pe_bm0 PySem.F.plainAttrs_list PySem.F.slot_list_reverse PySem.F.type_list_reverse mt_reverse (pv 4)))
      (pss_one (ps_if (PW.pt (pw_or (pt_cmpR (r := rNeD K) (op_neD hr.units) (pe_cal c_ends hr (by rfl) (pa_cons (pv 4) pa_nil)) (pe_callB (r := rSortRows K) (cr_sortRows (room65 hr)) (by rfl) B.sorted PyProof.Rows.boot_sorted (pa_cons (pe_lc (own := [("_law_some", 9)]) (g := gName 9) (tt := tYes) rfl sc_law.nd (pi_list (pv 10)) (blkOk_by (N := N_law) (sc := defScope s_law) (by decide +kernel)) (fun _ _ _ _ _ => (pg_name (i := 9) sc_law.nd rfl (.inl rfl))) (fun _ _ _ _ _ => pts_nil) (fun _ _ _ _ _ => (pe_revLK (K := K) rfl (pv 9)))) pa_nil)) (nomark _)) (pw_or1 (pt_cmpR (r := rNeD K) (op_neD hr.units) (pe_cal c_fewest_most hr (by rfl) (pa_cons (pv 4) pa_nil)) (pe_tup (pa_cons (pe_callB (r := rMin K) (cr_min rfl) (by rfl) B.min PyProof.Rows.boot_min (pa_cons (pv 6) pa_nil)) (pa_cons (pe_callB (r := rMax K) (cr_max rfl) (by rfl) B.max PyProof.Rows.boot_max (pa_cons (pv 6) pa_nil)) pa_nil))) (nomark _)))))
      (pss_one (ps_ret pe_bl))
      pss_nil))))))))))
    (pss_cons (ps_if (PW.pt (pw_or (pt_cmpR (r := rNeD K) (op_neD hr.units) (pe_cal c_ends hr (by rfl) (pa_cons (pe_lst (pa_cons pe_int (pa_cons pe_int (pa_cons pe_int pa_nil)))) pa_nil)) (pe_lst (pa_cons (pe_lst (pa_cons pe_int (pa_cons pe_int (pa_cons pe_int pa_nil)))) pa_nil)) (nomark _)) (pw_or1 (pt_cmpR (r := rNeD K) (op_neD hr.units) (pe_cal c_fewest_most hr (by rfl) (pa_cons (pe_lst (pa_cons pe_int (pa_cons pe_int (pa_cons pe_int pa_nil)))) pa_nil)) (pe_tup (pa_cons pe_int (pa_cons pe_int pa_nil))) (nomark _)))))
    (pss_one (ps_ret pe_bl))
    pss_nil)
    (pss_cons (ps_if (PW.pt (pw_or (pt_cmpR (r := rNeD K) (op_neD hr.units) (pe_cal c_ends hr (by rfl) (pa_cons (pe_lst (pa_cons pe_int (pa_cons pe_int pa_nil))) pa_nil)) (pe_lst (pa_cons (pe_lst (pa_cons pe_int (pa_cons pe_int pa_nil))) pa_nil)) (nomark _)) (pw_or1 (pt_cmpR (r := rNeD K) (op_neD hr.units) (pe_cal c_fewest_most hr (by rfl) (pa_cons (pe_lst (pa_cons pe_int (pa_cons pe_int (pa_cons pe_int pa_nil)))) pa_nil)) (pe_tup (pa_cons pe_int (pa_cons pe_int pa_nil))) (nomark _)))))
    (pss_one (ps_ret pe_bl))
    pss_nil)
    (pss_one (ps_ret (pe_cmpR (r := rEqD K) (op_eqD hr.units) (pe_cal c_ends hr (by rfl) (pa_cons (pe_lst (pa_cons pe_int (pa_cons pe_int (pa_cons pe_int pa_nil)))) pa_nil)) (pe_lst (pa_cons (pe_lst (pa_cons pe_int (pa_cons pe_int (pa_cons pe_int pa_nil)))) (pa_cons (pe_lst (pa_cons pe_int (pa_cons pe_int (pa_cons pe_int pa_nil)))) (pa_cons (pe_lst (pa_cons pe_int (pa_cons pe_int (pa_cons pe_int pa_nil)))) (pa_cons (pe_lst (pa_cons pe_int (pa_cons pe_int (pa_cons pe_int pa_nil)))) pa_nil))))) (nomark _)))))))), ?_⟩
    obtain ⟨cs, ecs, hcs, lcs⟩ := cut63 ns
    refine ⟨.ref a, rfl, 63, rfl, a, _, rfl, hS, fun sc hsc => ?_⟩
    rw [ecs]
    have hSc : Lst (upd H sc (.lst (cs.map V.int))) sc cs := upd_same
    have bcs : ∀ z ∈ cs, bits z ≤ 1048576 := fun z hz => hb z (hcs z hz)
    generalize upd H sc (.lst (cs.map V.int)) = H0 at hSc
    obtain ⟨mn, emn, mn0, mn1⟩ : ∃ mn : Int, (if ((cs.map V.int).length : Int) < 2 then ((cs.map V.int).length : Int) else 2) = mn ∧ 0 ≤ mn ∧ mn ≤ 2 := ⟨_, rfl, by split <;> omega, by split <;> omega⟩
    obtain ⟨len, elen, len1, len2⟩ : ∃ len : Int, (if mn > 1 then mn else 1) = len ∧ 0 ≤ len ∧ len ≤ 2 := ⟨_, rfl, by split <;> omega, by split <;> omega⟩
    refine ⟨.ref sc, rfl, sc, _, rfl, .inl hSc.sq, _, _, rfl, ?_⟩
    rw [emn]
    refine ⟨_, _, rfl, ?_⟩
    rw [elen]
    refine ⟨_, _, rfl, ⟨by omega, by omega, by omega, by omega⟩, for_range
      (fun i σ H' => ∃ x1 x2 x3 x4 x5 x6 x7 x8 x9 x10 x11 x12 x13 x14, σ = [some (.ref sc), x1, x2, x3, x4, x5, x6, x7, x8, x9, x10, x11, x12, x13, x14] ∧ Same H0 H')
      ⟨none, none, none, none, none, none, none, none, none, none, none, none, none, none, rfl, Same.refl _⟩ (fun i σ H1 hi h => ?_) (fun σ H1 h => ?_)⟩
    · obtain ⟨x1, x2, x3, x4, x5, x6, x7, x8, x9, x10, x11, x12, x13, x14, rfl, s1⟩ := h
      have hSc1 := hSc.mono s1
      have hi2 : i < 2 := by omega
      refine ⟨.ref sc, rfl, .int (0 + (i : Int)), rfl, sc, cs, _, rfl, hSc1.sq, by omega, fun c hc => ?_⟩
      have bc : bits c ≤ 1048576 := by
        rcases hc with rfl | hc
        · decide
        · exact bcs c hc
      refine ⟨c, 9, rfl, by omega, by decide, by decide, fun H2 v s2 => ?_⟩
      refine ⟨_, _, rfl, rfl, (by show (0 : Int) < 8; decide), _, _, rfl, rfl, ⟨by decide, by decide⟩, ?_⟩
      obtain ⟨fv, efv, fv0, fv1⟩ : ∃ fv : Int, v % 8 / 7 = fv ∧ 0 ≤ fv ∧ fv ≤ 1 := ⟨_, rfl, by omega, by omega⟩
      refine ⟨.ref sc, rfl, .int (0 + (i : Int)), rfl, _, rfl, _, _, rfl, rfl, _, rfl, _, _, rfl, rfl, .inl ⟨by decide, by decide⟩, _, _, rfl, rfl, ?_⟩
      rw [efv]
      refine ⟨sc, cs, _, _, _, rfl, (hSc1.mono s2).sq, bcs, by omega, by omega, by omega, by omega, by omega, by omega, fun H3 r ms s3 hr0 hR ok0 => ?_⟩
      have ok : Small ms := ⟨ok0.1, by have := ok0.2.1; omega, fun x hx => ⟨(ok0.2.2 x hx).1, by have := (ok0.2.2 x hx).2; omega⟩⟩
      have ok12 : RowOk ms 5 12 := ⟨ok0.1, by have := ok0.2.1; omega, fun x hx => ⟨(ok0.2.2 x hx).1, by have := (ok0.2.2 x hx).2; omega⟩⟩
      have few : Few ms := few_of ok0 rfl rfl fv0 fv1
      -- handed, last, counts
      refine ⟨.ref r, rfl, r, _, rfl, .inl hR.sq, fun hd hhd => ?_⟩
      have a1 : Same H3 (upd H3 hd (.lst (ms.map V.int))) := same_new hhd
      have hHd : Lst (upd H3 hd (.lst (ms.map V.int))) hd ms := upd_same
      have nhr : hd ≠ r := (ne_of_none (show H3 r = _ from hR) hhd).symm
      have hR1 := hR.mono a1
      generalize upd H3 hd (.lst (ms.map V.int)) = G1 at a1 hHd hR1
      refine fun la hla => ?_
      have a2 : Same G1 (upd G1 la (.dT [])) := same_new hla
      have hLa : (upd G1 la (.dT [])) la = some (.dT (dRows [])) := upd_same
      generalize upd G1 la (.dT []) = G2 at a2 hLa
      refine ⟨Nat.zero_le _, fun co hco => ?_⟩
      have a3 : Same G2 (upd G2 co (.lst [])) := same_new hco
      have hCo : (upd G2 co (.lst [])) co = some (.lst []) := upd_same
      have hLa3 := a3 _ _ hLa
      have hcoG : G1 co = none := a2.free hco
      have nlc : la ≠ co := ne_of_none hLa hco
      generalize upd G2 co (.lst []) = G3 at a3 hCo hLa3
      refine ⟨_, _, _, rfl, ?_⟩
      have a13 : Same G1 G3 := a2.trans a3
      -- the levels
      refine ⟨.ref r, rfl, r, ms, rfl, (hR1.mono a13).sq, ok, fun HB lv zs nl sB hlv hzs lvz hl0 hlt => ⟨lv, zs, rfl, SqL.of hzs, ?_⟩⟩
      have lz : zs.length = nl := by rw [pd_len lvz, List.length_map, List.length_range]
      have hnl : nl ≤ 577 := by
        apply Classical.byContradiction
        intro z
        exact hlt 577 (by omega) (lev_end ms (by have := few.sq; omega))
      have nlv : lv ≠ co := fun z => by rw [z, hCo] at hlv; cases hlv
      have hCoB := sB _ _ hCo
      refine ⟨fun i2 m σ H' => i2 + m = nl ∧ ∃ N cts y7 y8 y9, σ = [some (.ref sc), some (.int (0 + (i : Int))), some (.int (v % 8 / 7)), some (.ref r), some (.ref hd), some (.ref la), some (.ref co), y7, y8, y9, x10, x11, x12, x13, x14] ∧ Same G1 H' ∧ H' la = some (.dT (dRows N)) ∧
          H' co = some (.lst (cts.map V.int)) ∧ Lsts (hid HB [co]) (hid H' [co]) ∧ Ctd ms i2 [] N cts,
        ⟨nl, by omega, [], [], _, _, _, rfl, a13.trans sB, sB _ _ hLa3, hCoB, Lsts.refl _, Ctd.zero _⟩, fun i2 m σ HC h => ?_⟩
      obtain ⟨em, N, cts, y7, y8, y9, rfl, sC, hLaC, hCoC, kC, ct⟩ := h
      have hzC : HC lv = some (.lst zs) := hid_same _ _ _ _ (kC lv zs (by rw [hid_out (by simp [nlv])]; exact hzs))
      by_cases hi3 : i2 < nl
      · obtain ⟨v3, hv⟩ : ∃ v, zs[i2]? = some v := ⟨zs[i2], List.getElem?_eq_getElem (by omega)⟩
        refine .inr ⟨⟨zs, v3, SqL.of hzC, hv⟩, fun σ' H' => ∃ N cts y7 y8 y9, σ' = [some (.ref sc), some (.int (0 + (i : Int))), some (.int (v % 8 / 7)), some (.ref r), some (.ref hd), some (.ref la), some (.ref co), y7, y8, y9, x10, x11, x12, x13, x14] ∧ Same G1 H' ∧ H' la = some (.dT (dRows N)) ∧
          H' co = some (.lst (cts.map V.int)) ∧ Lsts (hid HB [co]) (hid H' [co]) ∧ Ctd ms (i2 + 1) [] N cts, fun σ' H' h => ⟨m - 1, by omega, by omega, h⟩, fun x HD hy => ?_⟩
        obtain ⟨T, y, rfl, nT, rfl, fy⟩ := hy
        have ey : y = v3 := Option.some.inj ((fy _ (SqL.of hzC)).symm.trans hv)
        subst ey
        have sT : Same HC (upd HC T (.tup [.int (i2 : Nat), y])) := same_new nT
        refine ⟨T, _, rfl, SqT.of upd_same, rfl, _, _, rfl, _, _, rfl, rfl, ?_⟩
        have sD := sC.trans sT
        have hLaD := sT _ _ hLaC
        have hCoD := sT _ _ hCoC
        have kD := kC.trans (Same.lsts (hid_mono (xs := [co]) sT))
        generalize upd HC T (.tup [.int (i2 : Nat), y]) = HD at sD hLaD hCoD kD
        obtain ⟨L, hL, ilv⟩ := pd_at lvz hv
        have eL : L = lev ms i2 := by
          rw [List.getElem?_map, List.getElem?_range hi3] at hL
          exact (Option.some.inj hL).symm
        subst eL
        obtain ⟨b, wl, rfl, hb1, rwl⟩ := isLv_hid hCoB ilv (hlt i2 hi3) fun rr hrr e => by
          have := ((mem_lev.mp hrr).ok ok).1
          rw [e] at this
          exact absurd this (by decide)
        have cnt := few.lv i2
        have lwl : wl.length = (lev ms i2).length := pd_len rwl
        refine ⟨.ref b, rfl, b, rfl, ⟨_, SqL.of (hid_same _ _ _ _ (kD _ _ hb1))⟩, ?_⟩
        refine for_list (K := K) (a := b) (xs := wl)
          (fun j σ H' => ∃ N cts y9, σ = [some (.ref sc), some (.int (0 + (i : Int))), some (.int (v % 8 / 7)), some (.ref r), some (.ref hd), some (.ref la), some (.ref co), some (.int (i2 : Nat)), some (.ref b), y9, x10, x11, x12, x13, x14] ∧ Same G1 H' ∧ H' la = some (.dT (dRows N)) ∧
            H' co = some (.lst (cts.map V.int)) ∧ Lsts (hid HB [co]) (hid H' [co]) ∧ Ctd ms i2 ((lev ms i2).take j) N cts)
          ⟨N, cts, _, rfl, sD, hLaD, hCoD, kD, ct⟩ (fun j σ H' _ h => ?_) (fun j x σ HE hx h => ?_) (fun σ HE h => ?_)
        · obtain ⟨_, _, _, _, _, _, _, k5, _⟩ := h
          exact SqL.of (hid_same _ _ _ _ (k5 _ _ hb1))
        · obtain ⟨N, cts, y9, rfl, sE, hLaE, hCoE, kE, ctE⟩ := h
          obtain ⟨rr, hrr, bb, rfl, hbb⟩ := pd_at rwl hx
          have hjl := (List.getElem?_eq_some_iff.mp hrr).1
          have rch := mem_lev.mp (List.mem_of_getElem? hrr)
          have okrr : Small rr := rch.ok ok
          have hbE : Lst HE bb rr := hid_same _ _ _ _ (kE _ _ hbb)
          refine ⟨.ref bb, rfl, bb, rr, rfl, hbE.sq, okrr.row12, fun HF p ps sF hp hps pr => ⟨Nat.zero_le _, fun z hz => ?_⟩⟩
          have sG : Same HF (upd HF z (.lst [])) := same_new hz
          refine ⟨prsD (evs rr), prsD [], dp_prs (SqL.of (sG _ _ hps)) (pr.mono (Same.tups sG)), dp_prs (SqL.of upd_same) .nil, shaped_prs _, shaped_prs _, _, rfl, ?_⟩
          rw [eqv_prs]
          have sEG := sF.trans sG
          have sHG := sE.trans sEG
          have hLaG := sEG _ _ hLaE
          have hCoG := sEG _ _ hCoE
          have kG := kE.trans (Same.lsts (hid_mono (xs := [co]) sEG))
          have hbG := hbE.mono sEG
          generalize upd HF z (.lst []) = HG at sHG hLaG hCoG kG hbG
          have etk : (lev ms i2).take (j + 1) = (lev ms i2).take j ++ [rr] := by rw [List.take_add_one, hrr]; rfl
          by_cases ce : evs rr = []
          · refine itP (decide_eq_true ce) ?_
            have cN : N.length ≤ 4084101 := count_le ok ctE.nd fun x hx => by
              obtain ⟨k, hk, _⟩ := ctE.nr x hx
              exact ⟨k, hk⟩
            refine ⟨.ref la, rfl, .ref bb, rfl, bb, _, rfl, .inl ⟨hbG.sq, fun t ht => ?_⟩⟩
            have sI : Same HG (upd HG t (.tup (rr.map V.int))) := same_new ht
            have hLaI := sI _ _ hLaG
            refine ⟨la, _, rfl, DPut.t (k := rowKey rr) hLaI (by rw [rowKey_V]; exact upd_same) (lineB (by rw [dRows_length]; omega)), ?_⟩
            rw [put_dRows]
            have hlaG : G1 la = none := hla
            have sJ : Same G1 (upd (upd HG t (.tup (rr.map V.int))) la (.dT (dRows (ins N rr)))) := same_upd2 (sHG.trans sI) hlaG
            have lJ : Lsts HG (upd (upd HG t (.tup (rr.map V.int))) la (.dT (dRows (ins N rr)))) := (Same.lsts sI).trans (lsts_dT hLaI)
            have hLaJ : (upd (upd HG t (.tup (rr.map V.int))) la (.dT (dRows (ins N rr)))) la = some (.dT (dRows (ins N rr))) := upd_same
            generalize upd (upd HG t (.tup (rr.map V.int))) la (.dT (dRows (ins N rr))) = HJ at sJ lJ hLaJ
            have hCoJ := lJ _ _ hCoG
            have lc : cts.length < sizeLine := by
              have h1 := ctE.ln
              rw [List.length_take] at h1
              have h2 : sizeLine = 16777216 := by decide
              omega
            refine ⟨.ref co, rfl, .inl ⟨rfl, _, SqL.of hCoJ⟩, .int (i2 : Nat), rfl, co, _, _, rfl, rfl, hCoJ, by rw [List.length_map]; exact lc, ?_⟩
            refine ⟨ins N rr, cts ++ [(i2 : Int)], _, rfl, same_upd2 sJ hcoG, by rw [upd_ne nlc]; exact hLaJ, by rw [upd_same, List.map_append]; rfl, ?_, by rw [etk]; exact ctE.new rch ce⟩
            rw [hid_upd (by simp)]
            exact kG.trans (hid_lsts (xs := [co]) lJ)
          · refine itN (by rw [decide_eq_false ce]; decide) ?_
            exact ⟨N, cts, _, rfl, sHG, hLaG, hCoG, kG, by rw [etk]; exact ctE.old ce⟩
        · obtain ⟨N, cts, y9, rfl, sE, hLaE, hCoE, kE, ctE⟩ := h
          rw [lwl, List.take_length] at ctE
          exact ⟨N, cts, _, _, _, rfl, sE, hLaE, hCoE, kE, ctE.next few⟩
      · -- all counted
        have ei2 : i2 = nl := by omega
        subst ei2
        refine .inl ⟨⟨zs, SqL.of hzC, by omega⟩, ?_⟩
        obtain ⟨stN, allC⟩ := ct.all hl0
        have cts' : Cts ms cts := ⟨allC, ct.cr⟩
        have cN : N.length ≤ 4084101 := count_le ok ct.nd fun x hx => by
          obtain ⟨k, hk, _⟩ := ct.nr x hx
          exact ⟨k, hk⟩
        -- due
        refine ⟨la, _, hLaC, trivial, fun od => ?_⟩
        have hlaG : G1 la = none := hla
        have hfz : (upd HC la (.frz od (.dT (dRows N)))) la = some (.frz od (.dT (dRows N))) := upd_same
        have l1 : Lsts HC (upd HC la (.frz od (.dT (dRows N)))) := lsts_dT hLaC
        have sL : Same G1 (upd HC la (.frz od (.dT (dRows N)))) := same_upd2 sC hlaG
        generalize upd HC la (.frz od (.dT (dRows N))) = HL at hfz l1 sL
        have hCoL := l1 _ _ hCoC
        refine ⟨.ref la, rfl, la, od, rfl, .inr ⟨_, hfz, fun D hD => ?_⟩⟩
        refine lc_keysT (d := la) (od := od) (kvs := dRows N) (fun j H' => Same HL H' ∧ ∃ ws, H' D = some (.lst ws) ∧ Nws HL (hid H' [D]) ws (N.take j))
          ⟨same_new hD, [], upd_same, .nil⟩ (fun j H' h => h.1 _ _ hfz) (fun j k v4 qa H5 hk hq h => ?_) (fun H5 h => ?_)
        · obtain ⟨rr, hrr, rfl⟩ := get_dRows hk
          obtain ⟨s5, ws, hDw, rw'⟩ := h
          rw [rowKey_V] at hq
          refine ⟨rfl, iteT (B := True) ⟨.ref qa, rfl, qa, _, rfl, .inr (SqT.of hq), fun l hl4 => ?_⟩⟩
          have s6 : Same H5 (upd H5 l (.lst (rr.map V.int))) := same_new hl4
          have nl2 : l ≠ D := (ne_of_none hDw hl4).symm
          refine ⟨ws, s6 _ _ hDw, lineB (by rw [pd_len rw', List.length_take]; omega), same_upd2 (s5.trans s6) hD, _, upd_same, ?_⟩
          rw [hid_upd (by simp), List.take_add_one, hrr]
          refine pd_app (Nws.mono (Same.lsts (hid_mono s6)) rw') (.cons ⟨l, rfl, ?_, s5.free hl4⟩ .nil)
          unfold Lst
          rw [hid_out (by simp [nl2]), upd_same]
        · obtain ⟨s5, ws, hDw, rw'⟩ := h
          rw [dRows_length, List.take_length] at rw'
          refine ⟨s5 _ _ hfz, ?_⟩
          have l2 : Lsts H5 (upd H5 la (.dT (dRows N))) := lsts_frz (s5 _ _ hfz)
          have s6 : Same G1 (upd H5 la (.dT (dRows N))) := same_upd2 (sL.trans s5) hlaG
          have hCo6 := l2 _ _ (s5 _ _ hCoL)
          have hD6 := l2 _ _ hDw
          have rw6 : Nws G1 (upd H5 la (.dT (dRows N))) ws N := Paired.mapP rw' fun v4 r4 h4 => by
            obtain ⟨b4, e4, hb4, n4⟩ := h4
            exact ⟨b4, e4, l2 _ _ (hid_same _ _ _ _ hb4), sL.free n4⟩
          generalize upd H5 la (.dT (dRows N)) = H6 at s6 hCo6 hD6 rw6
          refine ⟨D, ws, N, _, rfl, SqL.of hD6, rw6, fun v4 r4 h4 => h4.row, fun du dp hdp hprD => ?_⟩
          have s7 : Same H6 (upd H6 dp (.lst du)) := same_new hdp
          have hdp7 : (upd H6 dp (.lst du)) dp = some (.lst du) := upd_same
          have hCo7 := s7 _ _ hCo6
          have rdu : Rows (upd H6 dp (.lst du)) du (srt N) := (Nws.mono (Same.lsts s7) hprD).rows
          have sG7 := s6.trans s7
          have ndu : Nws G1 (upd H6 dp (.lst du)) du (srt N) := Nws.mono (Same.lsts s7) hprD
          generalize upd H6 dp (.lst du) = H7 at s7 hdp7 hCo7 rdu sG7 ndu
          have hHd7 := hHd.mono sG7
          have hR7 := hR1.mono sG7
          have ldu : du.length = (srt N).length := pd_len ndu
          have lN : (srt N).length ≤ 4084101 := by rw [(srt_perm N).length_eq]; exact cN
          -- told twice
          refine ⟨2, rfl, by decide, by decide, for_range
            (fun _ σ H' => ∃ z9 z11 z12 z13 z14, σ = [some (.ref sc), some (.int (0 + (i : Int))), some (.int (v % 8 / 7)), some (.ref r), some (.ref hd), some (.ref la), some (.ref co), y7, y8, z9, some (.ref dp), z11, z12, z13, z14] ∧ Same H7 H')
            ⟨_, _, _, _, _, rfl, Same.refl _⟩ (fun k σ H8 hk h => ?_) (fun σ H8 h => ?_)⟩
          · obtain ⟨z9, z11, z12, z13, z14, rfl, s8⟩ := h
            refine ⟨.ref hd, rfl, hd, ms, rfl, hHd7.mono s8, ok, fun H9 o ys Fd s9 ho hO nwO stO => ?_⟩
            have s89 := s8.trans s9
            refine ⟨.ref hd, rfl, hd, ms, rfl, hHd7.mono s89, ok, mz12 ok12, fun HA u lo hi sA hu hbd => ?_⟩
            refine ⟨_, _, rfl, ?_⟩
            have s8A := s89.trans sA
            have hOA := sA _ _ hO
            have nwA : Nws H8 (hid HA [o]) ys (srt Fd) := Nws.mono (Same.lsts (hid_mono sA)) nwO
            have nwB : Rows HA ys (srt Fd) := (Nws.mono (Same.lsts (hid_same HA [o])) nwA).rows
            have eF : srt Fd = srt N := stO.same stN
            have lys : ys.length = (srt N).length := by rw [← eF]; exact pd_len nwA
            refine ⟨.ref o, rfl, _, _, _, _, true, rfl, .ty _, .base (.lst hOA), kit_ty (by decide +kernel), true, rfl, iteF (A := True) ⟨.ref o, rfl, .ref dp, rfl, rowsD (srt Fd), rowsD (srt N), dp_rows (SqL.of hOA) nwB, dp_rows (SqL.of (s8A _ _ hdp7)) (Rows.mono (Same.lsts s8A) rdu), shaped_rows _, shaped_rows _, _, rfl, itN (by rw [eqv_rows, decide_eq_true eF]; decide) ?_⟩⟩
            refine ⟨.ref hd, rfl, .ref r, rfl, rowD ms, rowD ms, dp_row' (hHd7.mono s8A), dp_row' (hR7.mono s8A), shaped_row _, shaped_row _, _, rfl, itN (nq_row _) ?_⟩
            -- the bounds
            refine ⟨.ref u, rfl, _, _, _, _, true, rfl, .ty _, .base (.tup hu), kit_ty (by decide +kernel), true, rfl, iteF (A := True) ⟨.ref u, rfl, .ref co, rfl, co, cts, rfl, SqL.of (s8A _ _ hCo7), cts'.pos hbd, fun mi m1 m2 => ⟨.ref co, rfl, co, cts, rfl, SqL.of (s8A _ _ hCo7), cts'.pos hbd, fun mx M1 M2 => ⟨(by show 2 ≤ sizeLine; decide), fun tt htt => ?_⟩⟩⟩⟩
            obtain rfl := cts'.min hbd m1 m2
            obtain rfl := cts'.max hbd M1 M2
            have sB : Same HA (upd HA tt (.tup [.int (lo : Int), .int (hi : Int)])) := same_new htt
            refine ⟨prD ((lo : Int), (hi : Int)), prD ((lo : Int), (hi : Int)), dp_prT (p := ((lo : Int), (hi : Int))) (SqT.of (sB _ _ hu)), dp_prT (p := ((lo : Int), (hi : Int))) (SqT.of upd_same), shaped_pr _, shaped_pr _, _, rfl, itN (by rw [eqv_pr, decide_eq_true rfl]; decide) ?_⟩
            have s8B := s8A.trans sB
            have s8x := (s9.trans sA).trans sB
            have huB := sB _ _ hu
            have hOB := sB _ _ hOA
            have nwC : Nws H8 (hid (upd HA tt (.tup [.int (lo : Int), .int (hi : Int)])) [o]) ys (srt Fd) := Nws.mono (Same.lsts (hid_mono sB)) nwA
            generalize upd HA tt (.tup [.int (lo : Int), .int (hi : Int)]) = HB2 at s8B s8x huB hOB nwC
            -- whole numbers
            refine ⟨.ref u, rfl, u, rfl, ⟨_, SqT.of huB⟩, fun D5 hD5 => ?_⟩
            refine lc_tup (K := K) (a := u) (xs := [.int (lo : Int), .int (hi : Int)]) (fun j H' => Same HB2 H' ∧ H' D5 = some (.lst ((List.replicate j true).map V.bl))) ⟨same_new hD5, upd_same⟩ (fun j H' _ h => SqT.of (h.1 _ _ huB)) (fun j x H' hx h => ?_) (fun HC2 h => ?_)
            · have hj := (List.getElem?_eq_some_iff.mp hx).1
              have hj2 : j < 2 := hj
              obtain ⟨z, rfl⟩ : ∃ z, x = .int z := by
                have := List.mem_of_getElem? hx
                simp only [List.mem_cons, List.not_mem_nil, or_false] at this
                rcases this with rfl | rfl
                · exact ⟨_, rfl⟩
                · exact ⟨_, rfl⟩
              refine ⟨rfl, iteT (B := True) ⟨.int z, rfl, .int z, true, rfl, whole_int z, ?_⟩⟩
              refine ⟨_, h.2, small1000 (by rw [List.length_map, List.length_replicate]; omega), same_upd2 h.1 hD5, ?_⟩
              rw [upd_same, List.replicate_succ', List.map_append]
              rfl
            · refine ⟨D5, List.replicate 2 true, rfl, SqL.of h.2, _, rfl, itN (by rw [all_rep]; decide) ?_⟩
              have sBC := h.1
              clear h
              have hOC := sBC _ _ hOB
              have nwD : Nws H8 (hid HC2 [o]) ys (srt Fd) := Nws.mono (Same.lsts (hid_mono sBC)) nwC
              have s8C := s8B.trans sBC
              -- the sums stay
              refine ⟨.ref o, rfl, o, rfl, ⟨_, SqL.of hOC⟩, fun D6 hD6 => ?_⟩
              refine lc_list (K := K) (a := o) (xs := ys) (fun j H' => Same HC2 H' ∧ H' D6 = some (.lst ((List.replicate j false).map V.bl))) ⟨same_new hD6, upd_same⟩ (fun j H' _ h => SqL.of (h.1 _ _ hOC)) (fun j x H' hx h => ?_) (fun HD2 h => ?_)
              · have hj := (List.getElem?_eq_some_iff.mp hx).1
                obtain ⟨rr, hrr, bb, rfl, hbb, _⟩ := pd_at nwD hx
                obtain ⟨kk, hkk, _⟩ := (stO.2 rr).mp (mem_srt.mp (List.mem_of_getElem? hrr))
                have hbb2 : Lst HC2 bb rr := hid_same _ _ _ _ hbb
                refine ⟨rfl, iteT (B := True) ⟨.ref bb, rfl, bb, rr, rfl, (hbb2.mono h.1).sq, .ref r, rfl, r, ms, rfl, ((hR7.mono s8C).mono h.1).sq, rfl, ?_⟩⟩
                refine ⟨_, h.2, lineB (by rw [List.length_map, List.length_replicate]; omega), same_upd2 h.1 hD6, ?_⟩
                rw [upd_same, List.replicate_succ', List.map_append, hkk.sum, decide_eq_true rfl]
                rfl
              · refine ⟨D6, List.replicate ys.length false, rfl, SqL.of h.2, _, rfl, itN (by simp) ?_⟩
                have sCD := h.1
                clear h
                have hOD := sCD _ _ hOC
                have s8D := s8C.trans sCD
                have mut0 : ∀ v ∈ ys, ∃ b xs, v = .ref b ∧ b ≠ o ∧ H8 b = none ∧ HD2 b = some (.lst xs) ∧ xs.length ≤ 5 + 0 := fun v hv2 => by
                  obtain ⟨rr, hrr, bb, e, hbb, nb⟩ := pd_forth nwD hv2
                  have nbo : bb ≠ o := fun z => by
                    unfold Lst at hbb
                    rw [z, hid_in (by simp)] at hbb
                    cases hbb
                  obtain ⟨kk, hkk, _⟩ := (stO.2 rr).mp (mem_srt.mp hrr)
                  have okk : Small rr := hkk.ok ok
                  have := okk.len5
                  exact ⟨bb, rr.map V.int, e, nbo, nb, sCD _ _ (hid_same _ _ _ _ hbb), by rw [List.length_map]; exact this⟩
                refine ⟨.ref o, rfl, o, rfl, ⟨_, SqL.of hOD⟩, for_list (K := K) (a := o) (xs := ys)
                  (fun j σ H' => ∃ z9, σ = [some (.ref sc), some (.int (0 + (i : Int))), some (.int (v % 8 / 7)), some (.ref r), some (.ref hd), some (.ref la), some (.ref co), y7, y8, z9, some (.ref dp), some (.int (0 + (k : Int))), some (.ref o), some (.ref u), z14] ∧ Same H8 H' ∧ H' o = some (.lst ys) ∧
                    ∀ v ∈ ys, ∃ b xs, v = .ref b ∧ b ≠ o ∧ H8 b = none ∧ H' b = some (.lst xs) ∧ xs.length ≤ 5 + j)
                  ⟨_, rfl, s8x.trans (sBC.trans sCD), hOD, mut0⟩ (fun j σ H' _ h => ?_) (fun j x σ H' hx h => ?_) (fun σ H' h => ?_)⟩
                · obtain ⟨_, _, _, h3, _⟩ := h
                  exact SqL.of h3
                · obtain ⟨z9, rfl, sX, hoX, mu⟩ := h
                  have hj := (List.getElem?_eq_some_iff.mp hx).1
                  obtain ⟨b, xs, rfl, nbo, nb, hbx, lx⟩ := mu x (List.mem_of_getElem? hx)
                  refine ⟨.ref b, rfl, .inl ⟨rfl, _, SqL.of hbx⟩, b, xs, _, rfl, rfl, hbx, lineB (by omega), ?_⟩
                  refine ⟨_, rfl, same_upd2 sX nb, by rw [upd_ne nbo.symm]; exact hoX, fun v hv2 => ?_⟩
                  obtain ⟨b2, xs2, e2, nbo2, nb2, hbx2, lx2⟩ := mu v hv2
                  by_cases eb : b2 = b
                  · subst eb
                    exact ⟨b2, xs ++ [.int 0], e2, nbo2, nb2, upd_same, by rw [List.length_append]; show xs.length + 1 ≤ _; omega⟩
                  · exact ⟨b2, xs2, e2, nbo2, nb2, by rw [upd_ne eb]; exact hbx2, by omega⟩
                · obtain ⟨z9, rfl, sX, hoX, mu⟩ := h
                  refine ⟨.ref o, rfl, .inl ⟨rfl, _, SqL.of hoX⟩, Nat.zero_le _, fun tz htz => ?_⟩
                  refine ⟨o, ys, _, rfl, rfl, same_new htz _ _ hoX, lineB (by omega), ?_⟩
                  exact ⟨_, _, _, _, _, rfl, same_upd2 ((s8.trans sX).trans (same_new htz)) (s8.free ho)⟩
          · -- turned about
            obtain ⟨z9, z11, z12, z13, z14, rfl, s8⟩ := h
            have hHd8 := hHd7.mono s8
            refine ⟨.ref hd, rfl, .inl ⟨rfl, _, SqL.of hHd8⟩, hd, _, rfl, rfl, hHd8, ?_⟩
            have sR3 : Same H3 (upd H8 hd (.lst (ms.map V.int).reverse)) := same_upd2 ((a1.trans sG7).trans s8) hhd
            have hHdR : Lst (upd H8 hd (.lst (ms.map V.int).reverse)) hd ms.reverse := by
              unfold Lst
              rw [upd_same, List.map_reverse]
            have nhc : co ≠ hd := (ne_of_none (show G1 hd = _ from hHd) hcoG).symm
            have nhp : dp ≠ hd := (ne_of_none (show H6 hd = _ from hHd.mono s6) hdp).symm
            have hCoR : (upd H8 hd (.lst (ms.map V.int).reverse)) co = some (.lst (cts.map V.int)) := by rw [upd_ne nhc]; exact s8 _ _ hCo7
            have hdpR : (upd H8 hd (.lst (ms.map V.int).reverse)) dp = some (.lst du) := by rw [upd_ne nhp]; exact s8 _ _ hdp7
            have nduR : Rows (upd H8 hd (.lst (ms.map V.int).reverse)) du (srt N) := Paired.mapP ndu fun v4 r4 h4 => by
              obtain ⟨b4, e4, hb4, n4⟩ := h4
              have nb4 : b4 ≠ hd := (ne_of_none (show G1 hd = _ from hHd) n4).symm
              exact ⟨b4, e4, by unfold Lst; rw [upd_ne nb4]; exact s8 _ _ hb4⟩
            generalize upd H8 hd (.lst (ms.map V.int).reverse) = HR at sR3 hHdR hCoR hdpR nduR
            refine ⟨.ref hd, rfl, hd, ms.reverse, rfl, hHdR, ok.rev, fun H9 o ys Fd s9 ho hO nwO stO => ?_⟩
            have hdp9 := s9 _ _ hdpR
            refine ⟨.ref dp, rfl, dp, rfl, ⟨_, SqL.of hdp9⟩, fun D hD => ?_⟩
            refine lc_list (K := K) (a := dp) (xs := du) (fun j H' => Same H9 H' ∧ ∃ ws, H' D = some (.lst ws) ∧ Nws H9 (hid H' [D]) ws (((srt N).take j).map List.reverse))
              ⟨same_new hD, [], upd_same, .nil⟩ (fun j H' _ h => SqL.of (h.1 _ _ hdp9)) (fun j x H5' hx h => ?_) (fun H5' h => ?_)
            · obtain ⟨s5', ws, hDw, rw5⟩ := h
              obtain ⟨rr, hrr, bb, rfl, hbb⟩ := pd_at nduR hx
              have hj := (List.getElem?_eq_some_iff.mp hx).1
              refine ⟨rfl, iteT (B := True) ⟨.ref bb, rfl, bb, _, rfl, ((hbb.mono s9).mono s5').sq, fun l hl4 => ?_⟩⟩
              have s6' : Same H5' (upd H5' l (.lst (rr.map V.int).reverse)) := same_new hl4
              have nl2 : l ≠ D := (ne_of_none hDw hl4).symm
              refine ⟨ws, s6' _ _ hDw, lineB (by rw [pd_len rw5, List.length_map, List.length_take]; omega), same_upd2 (s5'.trans s6') hD, _, upd_same, ?_⟩
              rw [hid_upd (by simp), List.take_add_one, hrr, List.map_append]
              refine pd_app (Nws.mono (Same.lsts (hid_mono s6')) rw5) (.cons ⟨l, rfl, ?_, s5'.free hl4⟩ .nil)
              unfold Lst
              rw [hid_out (by simp [nl2]), upd_same, List.map_reverse]
            · obtain ⟨s5', ws, hDw, rw5⟩ := h
              rw [ldu, List.take_length] at rw5
              refine ⟨D, ws, (srt N).map List.reverse, _, rfl, SqL.of hDw, Nws.mono (Same.lsts (hid_same _ _)) rw5, fun v4 r4 h4 => h4.row, fun du2 dp2 hdp2 pr2 => ?_⟩
              have s7' : Same H5' (upd H5' dp2 (.lst du2)) := same_new hdp2
              have eF : srt Fd = srt ((srt N).map List.reverse) := stO.same stN.rev
              have s57 := s5'.trans s7'
              refine ⟨rowsD (srt Fd), rowsD (srt ((srt N).map List.reverse)), dp_rows (SqL.of (s57 _ _ hO)) (Nws.mono (Same.lsts s57) (Nws.mono (Same.lsts (hid_same H9 [o])) nwO)).rows, dp_rows (SqL.of upd_same) (Nws.mono (Same.lsts s7') pr2).rows, shaped_rows _, shaped_rows _, _, rfl, itN (by rw [eqv_rows, decide_eq_true eF]; decide) ?_⟩
              have sR7 := s9.trans s57
              generalize upd H5' dp2 (.lst du2) = H8' at sR7
              refine ⟨.ref hd, rfl, hd, ms.reverse, rfl, hHdR.mono sR7, ok.rev, mz12 ok12.rev, fun HA u lo hi sA hu hbd0 => ?_⟩
              have hbd := hbd0.rev
              have sRA := sR7.trans sA
              refine ⟨.ref co, rfl, co, cts, rfl, SqL.of (sRA _ _ hCoR), cts'.pos hbd, fun mi m1 m2 => ⟨.ref co, rfl, co, cts, rfl, SqL.of (sRA _ _ hCoR), cts'.pos hbd, fun mx M1 M2 => ⟨(by show 2 ≤ sizeLine; decide), fun tt htt => ?_⟩⟩⟩
              obtain rfl := cts'.min hbd m1 m2
              obtain rfl := cts'.max hbd M1 M2
              have sB : Same HA (upd HA tt (.tup [.int (lo : Int), .int (hi : Int)])) := same_new htt
              refine ⟨prD ((lo : Int), (hi : Int)), prD ((lo : Int), (hi : Int)), dp_prT (p := ((lo : Int), (hi : Int))) (SqT.of (sB _ _ hu)), dp_prT (p := ((lo : Int), (hi : Int))) (SqT.of upd_same), shaped_pr _, shaped_pr _, _, rfl, itN (by rw [eqv_pr, decide_eq_true rfl]; decide) ?_⟩
              exact ⟨_, _, _, _, _, _, _, _, _, _, _, _, _, _, rfl, (((s1.trans s2).trans s3).trans sR3).trans (sRA.trans sB)⟩
    · -- the end
      obtain ⟨x1, x2, x3, x4, x5, x6, x7, x8, x9, x10, x11, x12, x13, x14, rfl, s1⟩ := h
      refine ⟨(by show 3 ≤ sizeLine; decide), fun l1 hl1 => ?_⟩
      refine ⟨l1, [0, 0, 3], rfl, upd_same, by unfold Small RowOk; decide, fun HA1 o1 ys1 Fd1 sA1 ho1 hO1 nwO1 stO1 => ?_⟩
      have q1_0 : Same HA1 HA1 := Same.refl _
      refine ⟨(by show 3 ≤ sizeLine; decide), fun e1_0 he1_0 => ?_⟩
      have w1_0 : Same (HA1) (upd (HA1) e1_0 (.lst [.int 0, .int 0, .int 3])) := same_new he1_0
      have q1_1 : Same HA1 (upd (HA1) e1_0 (.lst [.int 0, .int 0, .int 3])) := q1_0.trans w1_0
      have v1_0 : Lst (upd (HA1) e1_0 (.lst [.int 0, .int 0, .int 3])) e1_0 [0, 0, 3] := upd_same
      generalize upd (HA1) e1_0 (.lst [.int 0, .int 0, .int 3]) = HE1_0 at w1_0 q1_1 v1_0
      refine ⟨(by show 1 ≤ sizeLine; decide), fun f1 hf1 => ?_⟩
      have wf1 : Same (HE1_0) (upd (HE1_0) f1 (.lst [.ref e1_0])) := same_new hf1
      have eS1 : srt Fd1 = [[0, 0, 3]] := stl_ground 1 stO1 gr1 (by decide) (by decide) (by decide) (by decide)
      have sq1 : Same HA1 (upd (HE1_0) f1 (.lst [.ref e1_0])) := q1_1.trans wf1
      refine ⟨rowsD (srt Fd1), rowsD [[0, 0, 3]], dp_rows (SqL.of (sq1 _ _ hO1)) (Nws.mono (Same.lsts sq1) (Nws.mono (Same.lsts (hid_same HA1 [o1])) nwO1)).rows, dp_rows (SqL.of upd_same) (.cons ⟨e1_0, rfl, v1_0.mono wf1⟩ .nil), shaped_rows _, shaped_rows _, _, rfl, itN (by rw [eqv_rows, decide_eq_true eS1]; decide) ?_⟩
      refine ⟨(by show 3 ≤ sizeLine; decide), fun l2 hl2 => ?_⟩
      refine ⟨l2, [0, 1, 2], rfl, upd_same, by unfold Small RowOk; decide, by decide, fun HA2 u2 lo2 hi2 sA2 hu2 hb2 => ⟨(by show 2 ≤ sizeLine; decide), fun t2 ht2 => ?_⟩⟩
      obtain ⟨rfl, rfl⟩ := bd_ground 1 1 2 hb2 gr2 (by decide) (by decide) (by decide)
      refine ⟨prD (((1 : Nat) : Int), ((1 : Nat) : Int)), prD (1, 1), dp_prT (p := (((1 : Nat) : Int), ((1 : Nat) : Int))) (SqT.of (same_new ht2 _ _ hu2)), dp_prT (p := (1, 1)) (SqT.of upd_same), shaped_pr _, shaped_pr _, _, rfl, itN (by rw [eqv_pr]; decide) ?_⟩
      refine ⟨(by show 2 ≤ sizeLine; decide), fun l3 hl3 => ?_⟩
      refine ⟨l3, [0, 2], rfl, upd_same, by unfold Small RowOk; decide, fun HA3 o3 ys3 Fd3 sA3 ho3 hO3 nwO3 stO3 => ?_⟩
      have q3_0 : Same HA3 HA3 := Same.refl _
      refine ⟨(by show 2 ≤ sizeLine; decide), fun e3_0 he3_0 => ?_⟩
      have w3_0 : Same (HA3) (upd (HA3) e3_0 (.lst [.int 1, .int 1])) := same_new he3_0
      have q3_1 : Same HA3 (upd (HA3) e3_0 (.lst [.int 1, .int 1])) := q3_0.trans w3_0
      have v3_0 : Lst (upd (HA3) e3_0 (.lst [.int 1, .int 1])) e3_0 [1, 1] := upd_same
      generalize upd (HA3) e3_0 (.lst [.int 1, .int 1]) = HE3_0 at w3_0 q3_1 v3_0
      refine ⟨(by show 1 ≤ sizeLine; decide), fun f3 hf3 => ?_⟩
      have wf3 : Same (HE3_0) (upd (HE3_0) f3 (.lst [.ref e3_0])) := same_new hf3
      have eS3 : srt Fd3 = [[1, 1]] := stl_ground 2 stO3 gr3 (by decide) (by decide) (by decide) (by decide)
      have sq3 : Same HA3 (upd (HE3_0) f3 (.lst [.ref e3_0])) := q3_1.trans wf3
      refine ⟨rowsD (srt Fd3), rowsD [[1, 1]], dp_rows (SqL.of (sq3 _ _ hO3)) (Nws.mono (Same.lsts sq3) (Nws.mono (Same.lsts (hid_same HA3 [o3])) nwO3)).rows, dp_rows (SqL.of upd_same) (.cons ⟨e3_0, rfl, v3_0.mono wf3⟩ .nil), shaped_rows _, shaped_rows _, _, rfl, itN (by rw [eqv_rows, decide_eq_true eS3]; decide) ?_⟩
      refine ⟨(by show 3 ≤ sizeLine; decide), fun l4 hl4 => ?_⟩
      refine ⟨l4, [0, 4, 6], rfl, upd_same, by unfold Small RowOk; decide, by decide, fun HA4 u4 lo4 hi4 sA4 hu4 hb4 => ⟨(by show 2 ≤ sizeLine; decide), fun t4 ht4 => ?_⟩⟩
      obtain ⟨rfl, rfl⟩ := bd_ground 1 3 4 hb4 gr4 (by decide) (by decide) (by decide)
      refine ⟨prD (((1 : Nat) : Int), ((3 : Nat) : Int)), prD (1, 3), dp_prT (p := (((1 : Nat) : Int), ((3 : Nat) : Int))) (SqT.of (same_new ht4 _ _ hu4)), dp_prT (p := (1, 3)) (SqT.of upd_same), shaped_pr _, shaped_pr _, _, rfl, itN (by rw [eqv_pr]; decide) ?_⟩
      refine ⟨(by show 3 ≤ sizeLine; decide), fun l5 hl5 => ?_⟩
      refine ⟨l5, [0, 4, 6], rfl, upd_same, by unfold Small RowOk; decide, fun HA5 o5 ys5 Fd5 sA5 ho5 hO5 nwO5 stO5 => ?_⟩
      have q5_0 : Same HA5 HA5 := Same.refl _
      refine ⟨(by show 3 ≤ sizeLine; decide), fun e5_0 he5_0 => ?_⟩
      have w5_0 : Same (HA5) (upd (HA5) e5_0 (.lst [.int 0, .int 5, .int 5])) := same_new he5_0
      have q5_1 : Same HA5 (upd (HA5) e5_0 (.lst [.int 0, .int 5, .int 5])) := q5_0.trans w5_0
      have v5_0 : Lst (upd (HA5) e5_0 (.lst [.int 0, .int 5, .int 5])) e5_0 [0, 5, 5] := upd_same
      generalize upd (HA5) e5_0 (.lst [.int 0, .int 5, .int 5]) = HE5_0 at w5_0 q5_1 v5_0
      refine ⟨(by show 3 ≤ sizeLine; decide), fun e5_1 he5_1 => ?_⟩
      have w5_1 : Same (HE5_0) (upd (HE5_0) e5_1 (.lst [.int 3, .int 3, .int 4])) := same_new he5_1
      have q5_2 : Same HA5 (upd (HE5_0) e5_1 (.lst [.int 3, .int 3, .int 4])) := q5_1.trans w5_1
      have v5_1 : Lst (upd (HE5_0) e5_1 (.lst [.int 3, .int 3, .int 4])) e5_1 [3, 3, 4] := upd_same
      generalize upd (HE5_0) e5_1 (.lst [.int 3, .int 3, .int 4]) = HE5_1 at w5_1 q5_2 v5_1
      refine ⟨(by show 3 ≤ sizeLine; decide), fun e5_2 he5_2 => ?_⟩
      have w5_2 : Same (HE5_1) (upd (HE5_1) e5_2 (.lst [.int 3, .int 4, .int 3])) := same_new he5_2
      have q5_3 : Same HA5 (upd (HE5_1) e5_2 (.lst [.int 3, .int 4, .int 3])) := q5_2.trans w5_2
      have v5_2 : Lst (upd (HE5_1) e5_2 (.lst [.int 3, .int 4, .int 3])) e5_2 [3, 4, 3] := upd_same
      generalize upd (HE5_1) e5_2 (.lst [.int 3, .int 4, .int 3]) = HE5_2 at w5_2 q5_3 v5_2
      refine ⟨(by show 3 ≤ sizeLine; decide), fun e5_3 he5_3 => ?_⟩
      have w5_3 : Same (HE5_2) (upd (HE5_2) e5_3 (.lst [.int 4, .int 3, .int 3])) := same_new he5_3
      have q5_4 : Same HA5 (upd (HE5_2) e5_3 (.lst [.int 4, .int 3, .int 3])) := q5_3.trans w5_3
      have v5_3 : Lst (upd (HE5_2) e5_3 (.lst [.int 4, .int 3, .int 3])) e5_3 [4, 3, 3] := upd_same
      generalize upd (HE5_2) e5_3 (.lst [.int 4, .int 3, .int 3]) = HE5_3 at w5_3 q5_4 v5_3
      refine ⟨(by show 4 ≤ sizeLine; decide), fun f5 hf5 => ?_⟩
      have wf5 : Same (HE5_3) (upd (HE5_3) f5 (.lst [.ref e5_0, .ref e5_1, .ref e5_2, .ref e5_3])) := same_new hf5
      have eS5 : srt Fd5 = [[0, 5, 5], [3, 3, 4], [3, 4, 3], [4, 3, 3]] := stl_ground 4 stO5 gr4 (by decide) (by decide) (by decide) (by decide)
      have sq5 : Same HA5 (upd (HE5_3) f5 (.lst [.ref e5_0, .ref e5_1, .ref e5_2, .ref e5_3])) := q5_4.trans wf5
      refine ⟨rowsD (srt Fd5), rowsD [[0, 5, 5], [3, 3, 4], [3, 4, 3], [4, 3, 3]], dp_rows (SqL.of (sq5 _ _ hO5)) (Nws.mono (Same.lsts sq5) (Nws.mono (Same.lsts (hid_same HA5 [o5])) nwO5)).rows, dp_rows (SqL.of upd_same) (.cons ⟨e5_0, rfl, (((v5_0.mono w5_1).mono w5_2).mono w5_3).mono wf5⟩ (.cons ⟨e5_1, rfl, ((v5_1.mono w5_2).mono w5_3).mono wf5⟩ (.cons ⟨e5_2, rfl, (v5_2.mono w5_3).mono wf5⟩ (.cons ⟨e5_3, rfl, v5_3.mono wf5⟩ .nil)))), shaped_rows _, shaped_rows _, ?_⟩
      rw [eqv_rows, decide_eq_true eS5]
      exact q _
end
end EG

/-! What the top has written, and the law. -/
namespace EG
open PySem L2
theorem all_mk {l : PySem.W.OpenLaw} {w : World} {K : PySem.W.Frag} {h : Heap} {mg : Str → Option Value} {fa : Addr} (X : K.In h) (G : h.Ns mainGlobals mg) (hfa : mg "law" = some (.ref fa))
    {f0 f1 f2 f3 f4 f5 f6 f7 f8 f9 f10 f11 f12 f13 f14 f15 : Addr} {od0 an0 od1 an1 od2 an2 od3 an3 od4 an4 od5 an5 od6 an6 od7 an7 od8 an8 od9 an9 od10 an10 od11 an11 od12 an12 od13 an13 od14 an14 od15 an15 : Option Addr} {sl0 sl1 sl2 sl3 sl4 sl5 sl6 sl7 sl8 sl9 sl10 sl11 sl12 sl13 sl14 sl15 : Array (Option Value)}
    {oc0 kV0 dc0 pm0 cd0 ct0 oc1 kV1 dc1 pm1 cd1 ct1 oc2 kV2 dc2 pm2 cd2 ct2 oc3 kV3 dc3 pm3 cd3 ct3 oc4 kV4 dc4 pm4 cd4 ct4 oc5 kV5 dc5 pm5 cd5 ct5 oc6 kV6 dc6 pm6 cd6 ct6 oc7 kV7 dc7 pm7 cd7 ct7 oc8 kV8 dc8 pm8 cd8 ct8 oc9 kV9 dc9 pm9 cd9 ct9 oc10 kV10 dc10 pm10 cd10 ct10 oc11 kV11 dc11 pm11 cd11 ct11 oc12 kV12 dc12 pm12 cd12 ct12 oc13 kV13 dc13 pm13 cd13 ct13 oc14 kV14 dc14 pm14 cd14 ct14 oc15 kV15 dc15 pm15 cd15 ct15 : Value} {t_FEW t_SMALL : Tok}
    (a0 : PySem.W.nsIn K mainGlobals "is_whole" = some (some (.ref f0))) (l0 : K.lookup f0 = some ⟨oc0, od0, .func (PySem.W.fnOf "is_whole" "is_whole" (defArgs s_is_whole) (defBody s_is_whole) (defScope s_is_whole) .none kV0 dc0 pm0 an0 cd0 ct0), sl0⟩)
    (c0 : PySem.W.codeIn K cd0 "is_whole" = true) (k0 : PySem.W.keepIn K (.ref f0) = true)
    (a1 : PySem.W.nsIn K mainGlobals "check_row" = some (some (.ref f1))) (l1 : K.lookup f1 = some ⟨oc1, od1, .func (PySem.W.fnOf "check_row" "check_row" (defArgs s_check_row) (defBody s_check_row) (defScope s_check_row) .none kV1 dc1 pm1 an1 cd1 ct1), sl1⟩)
    (c1 : PySem.W.codeIn K cd1 "check_row" = true) (k1 : PySem.W.keepIn K (.ref f1) = true)
    (a2 : PySem.W.nsIn K mainGlobals "evenings_of" = some (some (.ref f2))) (l2 : K.lookup f2 = some ⟨oc2, od2, .func (PySem.W.fnOf "evenings_of" "evenings_of" (defArgs s_evenings_of) (defBody s_evenings_of) (defScope s_evenings_of) .none kV2 dc2 pm2 an2 cd2 ct2), sl2⟩)
    (c2 : PySem.W.codeIn K cd2 "evenings_of" = true) (k2 : PySem.W.keepIn K (.ref f2) = true)
    (a3 : PySem.W.nsIn K mainGlobals "behind" = some (some (.ref f3))) (l3 : K.lookup f3 = some ⟨oc3, od3, .func (PySem.W.fnOf "behind" "behind" (defArgs s_behind) (defBody s_behind) (defScope s_behind) .none kV3 dc3 pm3 an3 cd3 ct3), sl3⟩)
    (c3 : PySem.W.codeIn K cd3 "behind" = true) (k3 : PySem.W.keepIn K (.ref f3) = true)
    (a4 : PySem.W.nsIn K mainGlobals "bounds_of" = some (some (.ref f4))) (l4 : K.lookup f4 = some ⟨oc4, od4, .func (PySem.W.fnOf "bounds_of" "bounds_of" (defArgs s_bounds_of) (defBody s_bounds_of) (defScope s_bounds_of) .none kV4 dc4 pm4 an4 cd4 ct4), sl4⟩)
    (c4 : PySem.W.codeIn K cd4 "bounds_of" = true) (k4 : PySem.W.keepIn K (.ref f4) = true)
    (a5 : PySem.W.nsIn K mainGlobals "fewest_most" = some (some (.ref f5))) (l5 : K.lookup f5 = some ⟨oc5, od5, .func (PySem.W.fnOf "fewest_most" "fewest_most" (defArgs s_fewest_most) (defBody s_fewest_most) (defScope s_fewest_most) .none kV5 dc5 pm5 an5 cd5 ct5), sl5⟩)
    (c5 : PySem.W.codeIn K cd5 "fewest_most" = true) (k5 : PySem.W.keepIn K (.ref f5) = true)
    (a6 : PySem.W.nsIn K mainGlobals "ends" = some (some (.ref f6))) (l6 : K.lookup f6 = some ⟨oc6, od6, .func (PySem.W.fnOf "ends" "ends" (defArgs s_ends) (defBody s_ends) (defScope s_ends) .none kV6 dc6 pm6 an6 cd6 ct6), sl6⟩)
    (c6 : PySem.W.codeIn K cd6 "ends" = true) (k6 : PySem.W.keepIn K (.ref f6) = true)
    (a7 : PySem.W.nsIn K mainGlobals "_law_cell_at" = some (some (.ref f7))) (l7 : K.lookup f7 = some ⟨oc7, od7, .func (PySem.W.fnOf "_law_cell_at" "_law_cell_at" (defArgs s_l_cell_at) (defBody s_l_cell_at) (defScope s_l_cell_at) .none kV7 dc7 pm7 an7 cd7 ct7), sl7⟩)
    (c7 : PySem.W.codeIn K cd7 "_law_cell_at" = true) (k7 : PySem.W.keepIn K (.ref f7) = true)
    (a8 : PySem.W.nsIn K mainGlobals "_law_draw" = some (some (.ref f8))) (l8 : K.lookup f8 = some ⟨oc8, od8, .func (PySem.W.fnOf "_law_draw" "_law_draw" (defArgs s_l_draw) (defBody s_l_draw) (defScope s_l_draw) .none kV8 dc8 pm8 an8 cd8 ct8), sl8⟩)
    (c8 : PySem.W.codeIn K cd8 "_law_draw" = true) (k8 : PySem.W.keepIn K (.ref f8) = true)
    (a9 : PySem.W.nsIn K mainGlobals "_law_value" = some (some (.ref f9))) (l9 : K.lookup f9 = some ⟨oc9, od9, .func (PySem.W.fnOf "_law_value" "_law_value" (defArgs s_l_value) (defBody s_l_value) (defScope s_l_value) .none kV9 dc9 pm9 an9 cd9 ct9), sl9⟩)
    (c9 : PySem.W.codeIn K cd9 "_law_value" = true) (k9 : PySem.W.keepIn K (.ref f9) = true)
    (a10 : PySem.W.nsIn K mainGlobals "_law_whole" = some (some (.ref f10))) (l10 : K.lookup f10 = some ⟨oc10, od10, .func (PySem.W.fnOf "_law_whole" "_law_whole" (defArgs s_l_whole) (defBody s_l_whole) (defScope s_l_whole) .none kV10 dc10 pm10 an10 cd10 ct10), sl10⟩)
    (c10 : PySem.W.codeIn K cd10 "_law_whole" = true) (k10 : PySem.W.keepIn K (.ref f10) = true)
    (a11 : PySem.W.nsIn K mainGlobals "_law_row" = some (some (.ref f11))) (l11 : K.lookup f11 = some ⟨oc11, od11, .func (PySem.W.fnOf "_law_row" "_law_row" (defArgs s_l_row) (defBody s_l_row) (defScope s_l_row) .none kV11 dc11 pm11 an11 cd11 ct11), sl11⟩)
    (c11 : PySem.W.codeIn K cd11 "_law_row" = true) (k11 : PySem.W.keepIn K (.ref f11) = true)
    (a12 : PySem.W.nsIn K mainGlobals "_law_can" = some (some (.ref f12))) (l12 : K.lookup f12 = some ⟨oc12, od12, .func (PySem.W.fnOf "_law_can" "_law_can" (defArgs s_l_can) (defBody s_l_can) (defScope s_l_can) .none kV12 dc12 pm12 an12 cd12 ct12), sl12⟩)
    (c12 : PySem.W.codeIn K cd12 "_law_can" = true) (k12 : PySem.W.keepIn K (.ref f12) = true)
    (a13 : PySem.W.nsIn K mainGlobals "_law_evened" = some (some (.ref f13))) (l13 : K.lookup f13 = some ⟨oc13, od13, .func (PySem.W.fnOf "_law_evened" "_law_evened" (defArgs s_l_evened) (defBody s_l_evened) (defScope s_l_evened) .none kV13 dc13 pm13 an13 cd13 ct13), sl13⟩)
    (c13 : PySem.W.codeIn K cd13 "_law_evened" = true) (k13 : PySem.W.keepIn K (.ref f13) = true)
    (a14 : PySem.W.nsIn K mainGlobals "_law_levels" = some (some (.ref f14))) (l14 : K.lookup f14 = some ⟨oc14, od14, .func (PySem.W.fnOf "_law_levels" "_law_levels" (defArgs s_l_levels) (defBody s_l_levels) (defScope s_l_levels) .none kV14 dc14 pm14 an14 cd14 ct14), sl14⟩)
    (c14 : PySem.W.codeIn K cd14 "_law_levels" = true) (k14 : PySem.W.keepIn K (.ref f14) = true)
    (a15 : PySem.W.nsIn K mainGlobals "law" = some (some (.ref f15))) (l15 : K.lookup f15 = some ⟨oc15, od15, .func (PySem.W.fnOf "law" "law" (defArgs s_law) (defBody s_law) (defScope s_law) .none kV15 dc15 pm15 an15 cd15 ct15), sl15⟩)
    (c15 : PySem.W.codeIn K cd15 "law" = true) (k15 : PySem.W.keepIn K (.ref f15) = true)
    (m_FEW : PySem.W.nsIn K mainGlobals "FEW" = some (some (.int 5 t_FEW)))
    (m_SMALL : PySem.W.nsIn K mainGlobals "SMALL" = some (some (.int 20 t_SMALL)))
    (z0 : PySem.W.nsIn K mainGlobals "isinstance" = some none) (z1 : PySem.W.nsIn K mainGlobals "int" = some none) (z2 : PySem.W.nsIn K mainGlobals "bool" = some none) (z3 : PySem.W.nsIn K mainGlobals "list" = some none) (z4 : PySem.W.nsIn K mainGlobals "len" = some none) (z5 : PySem.W.nsIn K mainGlobals "all" = some none) (z6 : PySem.W.nsIn K mainGlobals "range" = some none) (z7 : PySem.W.nsIn K mainGlobals "enumerate" = some none) (z8 : PySem.W.nsIn K mainGlobals "tuple" = some none) (z9 : PySem.W.nsIn K mainGlobals "min" = some none) (z10 : PySem.W.nsIn K mainGlobals "max" = some none) (z11 : PySem.W.nsIn K mainGlobals "sorted" = some none) (z12 : PySem.W.nsIn K mainGlobals "sum" = some none) (z13 : PySem.W.nsIn K mainGlobals "set" = some none) (z14 : PySem.W.nsIn K mainGlobals "any" = some none) :
    ∃ fd : FuncData, (∀ (s : Shared) (v : Value), BindsTo s fd ⟨[v], []⟩ [("_law_script", v)]) ∧ ∀ base : Heap, K.In base → base.Ns mainGlobals mg → FnOk l.prog w K mg base CX0 94 fa fd ["_law_script"] (sp_law K) := by
  have e := hfa.symm.trans (PySem.W.mg_of X G a15)
  cases e
  have F_is_whole := fun_mk (st := s_is_whole) l0 c0 k0
  have F_check_row := fun_mk (st := s_check_row) l1 c1 k1
  have F_evenings_of := fun_mk (st := s_evenings_of) l2 c2 k2
  have F_behind := fun_mk (st := s_behind) l3 c3 k3
  have F_bounds_of := fun_mk (st := s_bounds_of) l4 c4 k4
  have F_fewest_most := fun_mk (st := s_fewest_most) l5 c5 k5
  have F_ends := fun_mk (st := s_ends) l6 c6 k6
  have F_l_cell_at := fun_mk (st := s_l_cell_at) l7 c7 k7
  have F_l_draw := fun_mk (st := s_l_draw) l8 c8 k8
  have F_l_value := fun_mk (st := s_l_value) l9 c9 k9
  have F_l_whole := fun_mk (st := s_l_whole) l10 c10 k10
  have F_l_row := fun_mk (st := s_l_row) l11 c11 k11
  have F_l_can := fun_mk (st := s_l_can) l12 c12 k12
  have F_l_evened := fun_mk (st := s_l_evened) l13 c13 k13
  have F_l_levels := fun_mk (st := s_l_levels) l14 c14 k14
  have F_law := fun_mk (st := s_law) l15 c15 k15
  have b_is_whole := F_is_whole.binds (ps := ["thing"]) fun _ _ _ _ _ _ us hl => match us, hl with | [_], _ => rfl
  have b_check_row := F_check_row.binds (ps := ["row", "most", "greatest"]) fun _ _ _ _ _ _ us hl => match us, hl with | [_, _, _], _ => rfl
  have b_evenings_of := F_evenings_of.binds (ps := ["row"]) fun _ _ _ _ _ _ us hl => match us, hl with | [_], _ => rfl
  have b_behind := F_behind.binds (ps := ["row", "evening"]) fun _ _ _ _ _ _ us hl => match us, hl with | [_, _], _ => rfl
  have b_bounds_of := F_bounds_of.binds (ps := ["row", "known"]) fun _ _ _ _ _ _ us hl => match us, hl with | [_, _], _ => rfl
  have b_fewest_most := F_fewest_most.binds (ps := ["row"]) fun _ _ _ _ _ _ us hl => match us, hl with | [_], _ => rfl
  have b_ends := F_ends.binds (ps := ["row"]) fun _ _ _ _ _ _ us hl => match us, hl with | [_], _ => rfl
  have b_l_cell_at := F_l_cell_at.binds (ps := ["_law_script", "_law_k"]) fun _ _ _ _ _ _ us hl => match us, hl with | [_, _], _ => rfl
  have b_l_draw := F_l_draw.binds (ps := ["_law_cell", "_law_k", "_law_many"]) fun _ _ _ _ _ _ us hl => match us, hl with | [_, _, _], _ => rfl
  have b_l_value := F_l_value.binds (ps := ["_law_cell", "_law_turn"]) fun _ _ _ _ _ _ us hl => match us, hl with | [_, _], _ => rfl
  have b_l_whole := F_l_whole.binds (ps := ["_law_number"]) fun _ _ _ _ _ _ us hl => match us, hl with | [_], _ => rfl
  have b_l_row := F_l_row.binds (ps := ["_law_script", "_law_by", "_law_most", "_law_greatest"]) fun _ _ _ _ _ _ us hl => match us, hl with | [_, _, _, _], _ => rfl
  have b_l_can := F_l_can.binds (ps := ["_law_row_here"]) fun _ _ _ _ _ _ us hl => match us, hl with | [_], _ => rfl
  have b_l_evened := F_l_evened.binds (ps := ["_law_row_here", "_law_pair"]) fun _ _ _ _ _ _ us hl => match us, hl with | [_, _], _ => rfl
  have b_l_levels := F_l_levels.binds (ps := ["_law_row_here"]) fun _ _ _ _ _ _ us hl => match us, hl with | [_], _ => rfl
  have g_FEW := PySem.W.mg_of X G m_FEW
  have g_SMALL := PySem.W.mg_of X G m_SMALL
  have B : Blt mg := ⟨PySem.W.mg_none_of X G z0, PySem.W.mg_none_of X G z1, PySem.W.mg_none_of X G z2, PySem.W.mg_none_of X G z3, PySem.W.mg_none_of X G z4, PySem.W.mg_none_of X G z5, PySem.W.mg_none_of X G z6, PySem.W.mg_none_of X G z7, PySem.W.mg_none_of X G z8, PySem.W.mg_none_of X G z9, PySem.W.mg_none_of X G z10, PySem.W.mg_none_of X G z11, PySem.W.mg_none_of X G z12, PySem.W.mg_none_of X G z13, PySem.W.mg_none_of X G z14⟩
  refine ⟨PySem.W.fnOf "law" "law" (defArgs s_law) (defBody s_law) (defScope s_law) .none kV15 dc15 pm15 an15 cd15 ct15, fun s v => .of_eq rfl, fun base _ _ => ?_⟩
  have c_is_whole : Cal CX0 l.prog w K mg base "is_whole" ["thing"] 1 (sp_is_whole K) := ⟨_, _, ok_is_whole F_is_whole B, PySem.W.mg_of X G a0, F_is_whole.kp, b_is_whole⟩
  have c_check_row : Cal CX0 l.prog w K mg base "check_row" ["row", "most", "greatest"] 2 (sp_check_row) := ⟨_, _, ok_check_row F_check_row B c_is_whole, PySem.W.mg_of X G a1, F_check_row.kp, b_check_row⟩
  have c_evenings_of : Cal CX0 l.prog w K mg base "evenings_of" ["row"] 1 (sp_evenings_of K) := ⟨_, _, ok_evenings_of F_evenings_of B, PySem.W.mg_of X G a2, F_evenings_of.kp, b_evenings_of⟩
  have c_behind : Cal CX0 l.prog w K mg base "behind" ["row", "evening"] 1 (sp_behind K) := ⟨_, _, ok_behind F_behind B, PySem.W.mg_of X G a3, F_behind.kp, b_behind⟩
  have c_bounds_of : Cal CX0 l.prog w K mg base "bounds_of" ["row", "known"] 92 (sp_bounds 91) := ⟨_, _, ok_bounds F_bounds_of B c_evenings_of c_behind (PySem.W.mg_of X G a4) F_bounds_of.kp b_bounds_of 91, PySem.W.mg_of X G a4, F_bounds_of.kp, b_bounds_of⟩
  have c_fewest_most : Cal CX0 l.prog w K mg base "fewest_most" ["row"] 93 (sp_fewest_most) := ⟨_, _, ok_fewest_most F_fewest_most g_FEW g_SMALL c_check_row c_bounds_of, PySem.W.mg_of X G a5, F_fewest_most.kp, b_fewest_most⟩
  have c_ends : Cal CX0 l.prog w K mg base "ends" ["row"] 3 (sp_ends) := ⟨_, _, ok_ends F_ends B g_FEW g_SMALL c_check_row c_evenings_of c_behind, PySem.W.mg_of X G a6, F_ends.kp, b_ends⟩
  have c_l_cell_at : Cal CX0 l.prog w K mg base "_law_cell_at" ["_law_script", "_law_k"] 1 (sp_cell_at K) := ⟨_, _, ok_cell_at F_l_cell_at B, PySem.W.mg_of X G a7, F_l_cell_at.kp, b_l_cell_at⟩
  have c_l_draw : Cal CX0 l.prog w K mg base "_law_draw" ["_law_cell", "_law_k", "_law_many"] 1 (sp_draw) := ⟨_, _, ok_draw F_l_draw, PySem.W.mg_of X G a8, F_l_draw.kp, b_l_draw⟩
  have c_l_value : Cal CX0 l.prog w K mg base "_law_value" ["_law_cell", "_law_turn"] 2 (sp_value) := ⟨_, _, ok_value F_l_value c_l_draw, PySem.W.mg_of X G a9, F_l_value.kp, b_l_value⟩
  have c_l_whole : Cal CX0 l.prog w K mg base "_law_whole" ["_law_number"] 1 (sp_l_whole K) := ⟨_, _, ok_l_whole F_l_whole B, PySem.W.mg_of X G a10, F_l_whole.kp, b_l_whole⟩
  have c_l_row : Cal CX0 l.prog w K mg base "_law_row" ["_law_script", "_law_by", "_law_most", "_law_greatest"] 3 (sp_row K) := ⟨_, _, ok_row F_l_row B c_l_cell_at c_l_value, PySem.W.mg_of X G a11, F_l_row.kp, b_l_row⟩
  have c_l_can : Cal CX0 l.prog w K mg base "_law_can" ["_law_row_here"] 1 (sp_can K) := ⟨_, _, ok_can F_l_can B, PySem.W.mg_of X G a12, F_l_can.kp, b_l_can⟩
  have c_l_evened : Cal CX0 l.prog w K mg base "_law_evened" ["_law_row_here", "_law_pair"] 1 (sp_l_evened K) := ⟨_, _, ok_l_evened F_l_evened B, PySem.W.mg_of X G a13, F_l_evened.kp, b_l_evened⟩
  have c_l_levels : Cal CX0 l.prog w K mg base "_law_levels" ["_law_row_here"] 2 (sp_levels K) := ⟨_, _, ok_levels F_l_levels B c_l_can c_l_evened, PySem.W.mg_of X G a14, F_l_levels.kp, b_l_levels⟩
  exact ok_law F_law B c_ends c_fewest_most c_l_row c_l_value c_l_cell_at c_l_can c_l_levels c_l_whole
end EG
open PySem PySem.W PyProof.Rows
set_option maxHeartbeats 0 in
theorem PySem.Challenge.cw_evenglasses_k04_whole_ends_holds : PySem.Challenge.rw_evenglasses_k04_whole_ends.Holds := by
  w_on; o_law; k_head; (case hw => w_witness2)
  k_fill
  refine L2.walk_ofB (l := PySem.Challenge.rw_evenglasses_k04_whole_ends) (n := 63) (k := 94) (x := "_law_script") (CX := fun _ => L2.CX0) (sp := fun w => EG.sp_law _) rfl (by decide) rfl ⟨rfl, by decide, by decide⟩ (fun w h Y => PySem.W.kIn_of Y) ?F (fun _ _ a ns hl hb _ hS => ⟨a, ns, rfl, hS, hl, hb, fun _ => rfl⟩) (fun _ _ _ _ _ h => h)
  case F =>
    intro w mg fa h KX G hmg
    refine' EG.all_mk KX G hmg ?a0 ?l0 ?c0 ?k0 ?a1 ?l1 ?c1 ?k1 ?a2 ?l2 ?c2 ?k2 ?a3 ?l3 ?c3 ?k3 ?a4 ?l4 ?c4 ?k4 ?a5 ?l5 ?c5 ?k5 ?a6 ?l6 ?c6 ?k6 ?a7 ?l7 ?c7 ?k7 ?a8 ?l8 ?c8 ?k8 ?a9 ?l9 ?c9 ?k9 ?a10 ?l10 ?c10 ?k10 ?a11 ?l11 ?c11 ?k11 ?a12 ?l12 ?c12 ?k12 ?a13 ?l13 ?c13 ?k13 ?a14 ?l14 ?c14 ?k14 ?a15 ?l15 ?c15 ?k15 ?m_FEW ?m_SMALL ?z0 ?z1 ?z2 ?z3 ?z4 ?z5 ?z6 ?z7 ?z8 ?z9 ?z10 ?z11 ?z12 ?z13 ?z14
    (case a0 => k_is); (case l0 => k_is); (case c0 => k_is); (case k0 => k_is); (case a1 => k_is); (case l1 => k_is)
    (case c1 => k_is); (case k1 => k_is); (case a2 => k_is); (case l2 => k_is); (case c2 => k_is); (case k2 => k_is)
    (case a3 => k_is); (case l3 => k_is); (case c3 => k_is); (case k3 => k_is); (case a4 => k_is); (case l4 => k_is)
    (case c4 => k_is); (case k4 => k_is); (case a5 => k_is); (case l5 => k_is); (case c5 => k_is); (case k5 => k_is)
    (case a6 => k_is); (case l6 => k_is); (case c6 => k_is); (case k6 => k_is); (case a7 => k_is); (case l7 => k_is)
    (case c7 => k_is); (case k7 => k_is); (case a8 => k_is); (case l8 => k_is); (case c8 => k_is); (case k8 => k_is)
    (case a9 => k_is); (case l9 => k_is); (case c9 => k_is); (case k9 => k_is); (case a10 => k_is); (case l10 => k_is)
    (case c10 => k_is); (case k10 => k_is); (case a11 => k_is); (case l11 => k_is); (case c11 => k_is); (case k11 => k_is)
    (case a12 => k_is); (case l12 => k_is); (case c12 => k_is); (case k12 => k_is); (case a13 => k_is); (case l13 => k_is)
    (case c13 => k_is); (case k13 => k_is); (case a14 => k_is); (case l14 => k_is); (case c14 => k_is); (case k14 => k_is)
    (case a15 => k_is); (case l15 => k_is); (case c15 => k_is); (case k15 => k_is); (case m_FEW => k_is); (case m_SMALL => k_is)
    (case z0 => k_is); (case z1 => k_is); (case z2 => k_is); (case z3 => k_is); (case z4 => k_is); (case z5 => k_is)
    (case z6 => k_is); (case z7 => k_is); (case z8 => k_is); (case z9 => k_is); (case z10 => k_is); (case z11 => k_is)
    (case z12 => k_is); (case z13 => k_is); (case z14 => k_is)
