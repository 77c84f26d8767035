import PyProof.Rows.All
import Wide.All
import OpenK.AllK
import Wide.FinOn
import HandS.ForMost
import HandS.Exc
import HandS.TryOnly
import HandS.ExcOwn
import HandS.WordsExc
import HandS.Sort
import HandS.SortOrd
import HandS.SortRule
import HandS.Deep
import HandS.IsInst
import HandS.Style
import HandS.Wide
import HandS.TupLen
import HandS.EndBits
import KE.IntBitsLaws
import PyProof.Rows.SetFrom
import PyProof.Rows.RegSetDedup
import KE.SortData
import PySem.Challenge.RW_evenglasses_k01_rows
set_option Elab.async false
set_option maxRecDepth 100000
set_option maxHeartbeats 4000000
/-! Rows, their evenings, the row behind one: plain Lean. -/
namespace EG
abbrev Pr := Int × Int
def goodP (ns : List Int) (i j : Nat) : Bool := !decide (ns.getD i 0 = ns.getD j 0) && decide ((ns.getD i 0 + ns.getD j 0) % 2 = 0)
/-- the pairs (i, j), j the first k places behind i -/
def evI (ns : List Int) (i k : Nat) : List Pr := ((List.range' (i + 1) k).filter (goodP ns i)).map fun (j : Nat) => ((i : Int), (j : Int))
def evN (ns : List Int) (m : Nat) : List Pr := (List.range m).flatMap fun i => evI ns i (ns.length - (i + 1))
def evs (ns : List Int) : List Pr := evN ns ns.length
/-- the same by the greater place -/
def cnO (ns : List Int) (j k : Nat) : List Pr := ((List.range k).filter fun i => goodP ns i j).map fun (i : Nat) => ((i : Int), (j : Int))
def cnN (ns : List Int) (m : Nat) : List Pr := (List.range m).flatMap fun j => cnO ns j j

theorem evI_succ (ns : List Int) (i k : Nat) : evI ns i (k + 1) = evI ns i k ++ if goodP ns i (i + 1 + k) = true then [((i : Int), ((i + 1 + k : Nat) : Int))] else [] := by
  unfold evI
  rw [List.range'_concat, List.filter_append, List.map_append]
  by_cases h : goodP ns i (i + 1 + 1 * k) = true
  · rw [show i + 1 + k = i + 1 + 1 * k by omega, if_pos h, List.filter_cons_of_pos h]; rfl
  · rw [show i + 1 + k = i + 1 + 1 * k by omega, if_neg h, List.filter_cons_of_neg h]; rfl
theorem evN_succ (ns : List Int) (m : Nat) : evN ns (m + 1) = evN ns m ++ evI ns m (ns.length - (m + 1)) := by
  unfold evN
  rw [List.range_succ, List.flatMap_append, List.flatMap_singleton]
theorem cnO_succ (ns : List Int) (j k : Nat) : cnO ns j (k + 1) = cnO ns j k ++ if goodP ns k j = true then [((k : Int), (j : Int))] else [] := by
  unfold cnO
  rw [List.range_succ, List.filter_append, List.map_append]
  by_cases h : goodP ns k j = true
  · rw [if_pos h, List.filter_cons_of_pos (p := fun i => goodP ns i j) h]; rfl
  · rw [if_neg h, List.filter_cons_of_neg (p := fun i => goodP ns i j) h]; rfl
theorem cnN_succ (ns : List Int) (m : Nat) : cnN ns (m + 1) = cnN ns m ++ cnO ns m m := by
  unfold cnN
  rw [List.range_succ, List.flatMap_append, List.flatMap_singleton]

/-- an evening that can be -/
def IsEv (ns : List Int) (p : Pr) : Prop := ∃ i j : Nat, p = ((i : Int), (j : Int)) ∧ i < j ∧ j < ns.length ∧ goodP ns i j = true
theorem mem_evs {ns : List Int} {p : Pr} : p ∈ evs ns ↔ IsEv ns p := by
  unfold evs evN evI IsEv
  simp only [List.mem_flatMap, List.mem_range, List.mem_map, List.mem_filter, List.mem_range'_1]
  constructor
  · rintro ⟨i, hi, j, ⟨⟨h1, h2⟩, hg⟩, rfl⟩
    exact ⟨i, j, rfl, by omega, by omega, hg⟩
  · rintro ⟨i, j, rfl, h1, h2, hg⟩
    exact ⟨i, by omega, j, ⟨⟨by omega, by omega⟩, hg⟩, rfl⟩
theorem mem_cn {ns : List Int} {p : Pr} : p ∈ cnN ns ns.length ↔ IsEv ns p := by
  unfold cnN cnO IsEv
  simp only [List.mem_flatMap, List.mem_range, List.mem_map, List.mem_filter]
  constructor
  · rintro ⟨j, hj, i, ⟨h1, hg⟩, rfl⟩
    exact ⟨i, j, rfl, h1, hj, hg⟩
  · rintro ⟨i, j, rfl, h1, h2, hg⟩
    exact ⟨j, h2, i, ⟨h1, hg⟩, rfl⟩
/-- the order of pairs -/
def ltPr (p q : Pr) : Prop := p.1 < q.1 ∨ (p.1 = q.1 ∧ p.2 < q.2)
theorem evI_sorted (ns : List Int) (i k : Nat) : (evI ns i k).Pairwise ltPr := by
  unfold evI
  rw [List.pairwise_map]
  refine List.Pairwise.filter _ ?_
  refine (List.pairwise_lt_range' (s := i + 1) (n := k)).imp ?_
  intro a b h
  exact .inr ⟨rfl, by show (a : Int) < (b : Int); omega⟩
theorem mem_evI {ns : List Int} {i k : Nat} {p : Pr} (h : p ∈ evI ns i k) : p.1 = (i : Int) := by
  unfold evI at h
  obtain ⟨j, _, rfl⟩ := List.mem_map.mp h
  rfl
theorem evN_sorted (ns : List Int) : ∀ m, (evN ns m).Pairwise ltPr
  | 0 => List.Pairwise.nil
  | m + 1 => by
    rw [evN_succ, List.pairwise_append]
    refine ⟨evN_sorted ns m, evI_sorted _ _ _, fun p hp q hq => ?_⟩
    unfold evN at hp
    obtain ⟨i, hi, hp⟩ := List.mem_flatMap.mp hp
    have h1 := mem_evI hp
    have h2 := mem_evI hq
    have h3 := List.mem_range.mp hi
    exact .inl (by rw [h1, h2]; omega)
theorem evs_sorted (ns : List Int) : (evs ns).Pairwise ltPr := evN_sorted ns _
theorem ltPr_irrefl (p : Pr) : ¬ ltPr p p := by rintro (h | h) <;> omega
theorem evs_nodup (ns : List Int) : (evs ns).Nodup := List.Pairwise.imp (R := ltPr) (fun {a b} h (e : a = b) => ltPr_irrefl a (by rw [← e] at h; exact h)) (evs_sorted ns)
theorem cnN_nodup (ns : List Int) : ∀ m, (cnN ns m).Nodup
  | 0 => List.nodup_nil
  | m + 1 => by
    rw [cnN_succ, List.nodup_append]
    refine ⟨cnN_nodup ns m, ?_, fun p hp q hq e => ?_⟩
    · unfold cnO
      refine List.Pairwise.map _ ?_ (List.Pairwise.filter _ List.nodup_range)
      intro a b h e
      exact h (by have := (Prod.mk.inj e).1; omega)
    · unfold cnN at hp
      obtain ⟨j, hj, hp⟩ := List.mem_flatMap.mp hp
      unfold cnO at hp hq
      obtain ⟨a, _, rfl⟩ := List.mem_map.mp hp
      obtain ⟨b, _, rfl⟩ := List.mem_map.mp hq
      have := List.mem_range.mp hj
      have := (Prod.mk.inj e).2
      omega
theorem cn_perm (ns : List Int) : (cnN ns ns.length).Perm (evs ns) :=
  (List.perm_ext_iff_of_nodup (cnN_nodup ns _) (evs_nodup ns)).mpr fun p => by rw [mem_cn, mem_evs]
/-- a sorted rearrangement of the evenings is their list -/
theorem evs_uniq {ns : List Int} {l : List Pr} (hp : l.Perm (cnN ns ns.length)) (hs : l.Pairwise fun p q => ¬ ltPr q p) : l = evs ns := by
  refine List.Perm.eq_of_pairwise (le := fun p q => ¬ ltPr q p) ?_ hs ?_ (hp.trans (cn_perm ns))
  · intro a b _ _ h1 h2
    unfold ltPr at h1 h2
    have e1 : a.1 = b.1 := by omega
    have e2 : a.2 = b.2 := by omega
    exact Prod.ext e1 e2
  · exact (evs_sorted ns).imp fun {a b} h h' => by
      unfold ltPr at h h'
      omega

/-- the row behind the evening of the places i, j -/
def half (ns : List Int) (i j : Nat) : Int := (ns.getD i 0 + ns.getD j 0) / 2
def beh (ns : List Int) (i j : Nat) : List Int := (List.range ns.length).map fun k => if k = i ∨ k = j then half ns i j else ns.getD k 0
theorem beh_length (ns : List Int) (i j : Nat) : (beh ns i j).length = ns.length := by unfold beh; rw [List.length_map, List.length_range]
theorem beh_get (ns : List Int) (i j k : Nat) (h : k < ns.length) : (beh ns i j)[k]? = some (if k = i ∨ k = j then half ns i j else ns.getD k 0) := by
  unfold beh
  rw [List.getElem?_map, List.getElem?_range h]; rfl
theorem beh_set (ns : List Int) (i j : Nat) : (ns.set i (half ns i j)).set j (half ns i j) = beh ns i j := by
  apply List.ext_getElem?
  intro k
  by_cases h : k < ns.length
  · rw [beh_get ns i j k h, List.getElem?_set, List.getElem?_set]
    have e : ns[k]? = some (ns.getD k 0) := by rw [List.getElem?_eq_getElem h, List.getD_eq_getElem?_getD, List.getElem?_eq_getElem h]; rfl
    rw [e]
    simp only [List.length_set, h]
    by_cases h1 : j = k
    · subst h1; simp [h]
    · by_cases h2 : i = k
      · subst h2
        simp [h1, h]
      · have h3 : ¬ k = i := fun z => h2 z.symm
        have h4 : ¬ k = j := fun z => h1 z.symm
        simp [h1, h2, h3, h4]
  · rw [List.getElem?_eq_none (by rw [List.length_set, List.length_set]; omega), List.getElem?_eq_none (by rw [beh_length]; omega)]
end EG

/-! The text by places: law_k01_rows. -/
namespace EG
open PySem L2
def topS (i : Nat) : Stmt := PySem.Challenge.pw_evenglasses_k01_rows.main.body.getD i (.Pass ⟨0, 0, 0, 0⟩)
abbrev s_GlassError : Stmt := topS 1
abbrev s_BadRow : Stmt := topS 2
abbrev s_BadEvening : Stmt := topS 3
abbrev s_is_whole : Stmt := topS 7
theorem sc_is_whole : FnScope ["thing"] ["thing"] (defScope s_is_whole) := ⟨rfl, rfl, rfl, by decide +kernel, rfl, by decide +kernel, by decide +kernel⟩
abbrev s_check_row : Stmt := topS 8
theorem sc_check_row : FnScope ["row", "most", "greatest", "one"] ["row", "most", "greatest"] (defScope s_check_row) := ⟨rfl, rfl, rfl, by decide +kernel, rfl, by decide +kernel, by decide +kernel⟩
abbrev s_evenings_of : Stmt := topS 9
theorem sc_evenings_of : FnScope ["row", "found", "one", "other"] ["row"] (defScope s_evenings_of) := ⟨rfl, rfl, rfl, by decide +kernel, rfl, by decide +kernel, by decide +kernel⟩
abbrev s_evenings : Stmt := topS 10
theorem sc_evenings : FnScope ["row"] ["row"] (defScope s_evenings) := ⟨rfl, rfl, rfl, by decide +kernel, rfl, by decide +kernel, by decide +kernel⟩
abbrev s_settled : Stmt := topS 11
theorem sc_settled : FnScope ["row"] ["row"] (defScope s_settled) := ⟨rfl, rfl, rfl, by decide +kernel, rfl, by decide +kernel, by decide +kernel⟩
abbrev s_behind : Stmt := topS 12
theorem sc_behind : FnScope ["row", "evening", "one", "other", "half", "place", "number"] ["row", "evening"] (defScope s_behind) := ⟨rfl, rfl, rfl, by decide +kernel, rfl, by decide +kernel, by decide +kernel⟩
abbrev s_check_evening : Stmt := topS 13
theorem sc_check_evening : FnScope ["row", "evening", "one"] ["row", "evening"] (defScope s_check_evening) := ⟨rfl, rfl, rfl, by decide +kernel, rfl, by decide +kernel, by decide +kernel⟩
abbrev s_evened : Stmt := topS 14
theorem sc_evened : FnScope ["row", "evening"] ["row", "evening"] (defScope s_evened) := ⟨rfl, rfl, rfl, by decide +kernel, rfl, by decide +kernel, by decide +kernel⟩
abbrev s_fall : Stmt := topS 15
theorem sc_fall : FnScope ["row", "evening", "apart"] ["row", "evening"] (defScope s_fall) := ⟨rfl, rfl, rfl, by decide +kernel, rfl, by decide +kernel, by decide +kernel⟩
abbrev s_l_cell_at : Stmt := topS 17
theorem sc_l_cell_at : FnScope ["_law_script", "_law_k"] ["_law_script", "_law_k"] (defScope s_l_cell_at) := ⟨rfl, rfl, rfl, by decide +kernel, rfl, by decide +kernel, by decide +kernel⟩
abbrev s_l_draw : Stmt := topS 18
theorem sc_l_draw : FnScope ["_law_cell", "_law_k", "_law_many", "_law_primes"] ["_law_cell", "_law_k", "_law_many"] (defScope s_l_draw) := ⟨rfl, rfl, rfl, by decide +kernel, rfl, by decide +kernel, by decide +kernel⟩
abbrev s_l_value : Stmt := topS 19
theorem sc_l_value : FnScope ["_law_cell", "_law_turn", "_law_mixed"] ["_law_cell", "_law_turn"] (defScope s_l_value) := ⟨rfl, rfl, rfl, by decide +kernel, rfl, by decide +kernel, by decide +kernel⟩
abbrev s_l_whole : Stmt := topS 20
theorem sc_l_whole : FnScope ["_law_number"] ["_law_number"] (defScope s_l_whole) := ⟨rfl, rfl, rfl, by decide +kernel, rfl, by decide +kernel, by decide +kernel⟩
abbrev s_l_says : Stmt := topS 21
theorem sc_l_says : FnScope ["_law_said", "_law_due"] ["_law_said", "_law_due"] (defScope s_l_says) := ⟨rfl, rfl, rfl, by decide +kernel, rfl, by decide +kernel, by decide +kernel⟩
abbrev n_says : List Str := ["_law_said", "_law_due"]
abbrev s_l_row : Stmt := topS 22
theorem sc_l_row : FnScope ["_law_script", "_law_by", "_law_most", "_law_greatest", "_law_cell", "_law_wide", "_law_step", "_law_found", "_law_at", "_law_number"] ["_law_script", "_law_by", "_law_most", "_law_greatest"] (defScope s_l_row) := ⟨rfl, rfl, rfl, by decide +kernel, rfl, by decide +kernel, by decide +kernel⟩
abbrev s_l_can : Stmt := topS 23
theorem sc_l_can : FnScope ["_law_row_here", "_law_found", "_law_other", "_law_one"] ["_law_row_here"] (defScope s_l_can) := ⟨rfl, rfl, rfl, by decide +kernel, rfl, by decide +kernel, by decide +kernel⟩
abbrev s_l_evened : Stmt := topS 24
theorem sc_l_evened : FnScope ["_law_row_here", "_law_pair", "_law_found"] ["_law_row_here", "_law_pair"] (defScope s_l_evened) := ⟨rfl, rfl, rfl, by decide +kernel, rfl, by decide +kernel, by decide +kernel⟩
abbrev s_law : Stmt := topS 25
theorem sc_law : FnScope ["_law_script", "_law_by", "_law_row_here", "_law_handed", "_law_due", "_law_again", "_law_found", "_law_rests", "_law_pair", "_law_less", "_law_there", "_law_squares", "_law_one", "_law_some"] ["_law_script"] (defScope s_law) := ⟨rfl, rfl, rfl, by decide +kernel, rfl, by decide +kernel, by decide +kernel⟩
end EG

/-! Rules of my own over the hand layer, and words about heaps. -/
namespace EG
open PySem PySem.Spec PyProof.Rows L2
section
variable {X : Cx}
/-- a product of ints of any size that the model bears -/
theorem op_mulB : OpR X (binaryOp .Mult) (rI IntMulOk fun i j => .int (i * j)) :=
  opI fun _ _ _ _ _ _ _ hc q => PyProof.Rows.mul_int q hc

/-- readings of len, list, tuple by K -/
abbrev rLenS (K : PySem.W.Frag) : List V → Hp → VK → Prop := fun xs H Q => ∃ p ys, xs = [.ref p] ∧ (SqL K H p ys ∨ SqT K H p ys) ∧ Q (.int ys.length) H
abbrev rListOf (K : PySem.W.Frag) : List V → Hp → VK → Prop := fun xs H Q => ∃ p ys, xs = [.ref p] ∧ (SqL K H p ys ∨ SqT K H p ys) ∧ ∀ l, H l = none → Q (.ref l) (upd H l (.lst ys))
abbrev rTupOf (K : PySem.W.Frag) : List V → Hp → VK → Prop := fun xs H Q => ∃ p ys, xs = [.ref p] ∧ ((SqL K H p ys ∧ ∀ l, H l = none → Q (.ref l) (upd H l (.tup ys))) ∨ (SqT K H p ys ∧ Q (.ref p) H))
/-! ### xs[::k]: some of its items -/
theorem vals_pick {xs : List V} {its : List Value} (r : Vals xs its) : ∀ idx : List Nat, Vals (idx.filterMap (xs[·]?)) (idx.filterMap (its.toArray[·]?))
  | [] => .nil
  | i :: idx => by
    have ih := vals_pick r idx
    cases e : xs[i]? with
    | none =>
      have e2 := r.none_of e
      rw [List.filterMap_cons_none e, List.filterMap_cons_none (by simpa using e2)]
      exact ih
    | some x =>
      obtain ⟨u, e2, ru⟩ := r.get e
      rw [List.filterMap_cons_some e, List.filterMap_cons_some (by simpa using e2)]
      exact .cons ru ih
def tStep (K : PySem.W.Frag) (te : TE) (ts : TO) : TE := fun σ H Q => te σ H fun x H1 => ts σ H1 fun o H2 =>
  ∃ (a : Addr) (xs : List V) (k : Int), x = .ref a ∧ o = some k ∧ k ≠ 0 ∧ SqL K H2 a xs ∧
    ∀ (p : Addr) (ys : List V), (∀ z ∈ ys, z ∈ xs) → ys.length ≤ xs.length → H2 p = none → Q (.ref p) (upd H2 p (.lst ys))
theorem pe_step {e st : Expr} {te : TE} {ts : TO} {p3 pos : Pos} (he : PE X e te) (hst : PO X (some st) ts) :
    PE X (.Subscript e (.Slice none none (some st) p3) pos) (tStep X.K te ts) := by
  refine ⟨fun pins s σ H Q I h => ?_⟩
  refine PyProof.Rows.Subscript_ (thn (he.run pins s σ H _ I h) fun v sA ⟨x, HA, IA, rA, qA⟩ => ?_)
  refine wpAny_Slice (thn (po_none.run pins sA σ HA (fun o Ho => o = none ∧ Ho = HA) IA ⟨rfl, rfl⟩) fun vl sB ⟨l, HB, IB, pl, el, eB⟩ => ?_)
  subst el eB
  refine thn (po_none.run pins sB σ HB (fun o Ho => o = none ∧ Ho = HB) IB ⟨rfl, rfl⟩) fun vu sC ⟨u, HC, IC, pu, eu, eC⟩ => ?_
  subst eu eC
  refine thn (hst.run pins sC σ HC _ IC qA) fun vs sD ⟨o, HD, ID, ps, qD⟩ => ?_
  obtain ⟨a, xs, k, ex, eo, k0, hx, q⟩ := qD
  subst ex eo
  cases rA
  have IE : Inv X pins σ HD { sD with heap := sD.heap.push { cls := .type "slice", data := .fields #[vl, vu, vs] } } := ID.kept (t' := sD.toks) fun b ob z => Heap.get?_push_of_some _ z
  obtain ⟨its, r, ht, hz⟩ := IE.list hx
  have hlen := r.length
  show wpAny (model X.prog X.w) X.A (subscriptTail e (.Slice none none (some st) p3) (.ref a) (.ref sD.heap.objs.size)) (EP X pins σ Q) X.xe { sD with heap := sD.heap.push { cls := .type "slice", data := .fields #[vl, vu, vs] } }
  refine tail_any (ops := [.ref a, .ref sD.heap.objs.size]) ht.isList.typeIs (PySem.slot_list_getitem.lookup) ?_ (by with_unfolding_all rfl)
  refine wpAny_getItem_list_slice ht.isList (Heap.IsSliceOf.new _ vl vu vs) pl pu ps (fun z => k0 (Option.some.inj z)) ?_ (by rw [List.size_toArray]; omega)
  have lenL := slicePick_size_le its.toArray none none (some k)
  obtain ⟨idx, ei⟩ : ∃ idx : List Nat, slicePick its.toArray none none (some k) = (idx.filterMap (its.toArray[·]?)).toArray := ⟨_, rfl⟩
  rw [ei] at lenL ⊢
  have rp := vals_pick r idx
  have lp := rp.length
  rw [List.size_toArray, List.size_toArray, ← lp, ← hlen] at lenL
  refine ⟨.ref _, _, IE.laid (t' := sD.toks) (o := .lst (idx.filterMap (xs[·]?))) (fun b ob z => Heap.get?_push_of_some _ z) (Nat.le_refl _) ?_, rfl, q _ _ (fun z hzm => ?_) lenL (IE.hok.fresh (Nat.le_refl _))⟩
  · exact ⟨by omega, _, 0, rp, Heap.get?_push_size _ rfl⟩
  · obtain ⟨i, _, e⟩ := List.mem_filterMap.mp hzm
    exact List.mem_of_getElem? e

/-! ### len(set(xs)), xs a list of ints -/
def dcount (ns : List Int) : Nat := (PyProof.Rows.firstMet (fun i => ns.getD i 0) ns.length).length
def tLenSetG (K : PySem.W.Frag) (ta : TE) : TE := fun σ H Q => ta σ H fun x H1 =>
  ∃ (l : Addr) (ns : List Int), x = .ref l ∧ SqL K H1 l (ns.map V.int) ∧ ns.length ≤ 4000 ∧ Q (.int (dcount ns : Nat)) H1
theorem pe_lenSetG {a : Expr} {ta : TE} {p p2 q pos : Pos} (hg : Gl X "len") (hm : X.mg "len" = none) (hg2 : Gl X "set") (hm2 : X.mg "set" = none) (ha : PE X a ta) (hc : X.calm = true := by rfl)
    (na : starEach [a] X.env = (false, eval a X.env) :: starEach [] X.env := by rfl) :
    PE X (.Call (.Name "len" p) [.Call (.Name "set" p2) [a] [] q] [] pos) (tLenSetG X.K ta) := by
  refine ⟨fun pins s σ H Q I h => ?_⟩
  refine PyProof.Rows.Call_ (ld_blt I hg hm boot_len (PyProof.Rows.callWith_builtin1 (PyProof.Rows.args_cons ?_ rfl) rfl rfl))
  refine PyProof.Rows.Call_ (ld_blt I hg2 hm2 PyProof.Rows.boot_set (PyProof.Rows.callWith_type1 ?_ na rfl))
  refine PyProof.Rows.args_cons (thn (ha.run pins s σ H _ I h) fun v sA ⟨x, HA, IA, rA, qA⟩ => PyProof.Rows.args_nil ?_) na
  obtain ⟨l, ns, rfl, hq, hl, qA⟩ := qA
  cases rA
  obtain ⟨its, r, pl, hz⟩ := IA.list hq
  have hlen : its.toArray.size = ns.length := by rw [List.size_toArray, ← r.length, List.length_map]
  refine call_set_list (IA.ok.hd hc) pl.isList (by simpa using intsAre_of r) (by rw [hlen]; unfold scanBound; omega) fun hB tk hS hk => ?_
  refine PyProof.Rows.args_nil ?_
  rw [hlen] at hS
  have dle : dcount ns ≤ ns.length := PyProof.Rows.firstMet_length_le _ _
  obtain ⟨o, es, ep, t, ho, hex, hd, _, _, _, hf, hn⟩ := hS
  have IB : Inv X pins σ HA { sA with heap := hB, toks := tk } := IA.kept fun b o e => hk b o (Heap.lt_size e) e
  have hn2 : es.size = dcount ns := hn
  exact call_len_set ho hex hd hf (by rw [hn2]; omega) ⟨.int (dcount ns : Nat), HA, IB.tok _, ⟨_, by rw [hn2]⟩, qA⟩
end

/-! ### a def of the text that keeps a promise, as its callers use it -/
def Cal (CX : CXT) (P : Program) (w : World) (K : PySem.W.Frag) (mg : Str → Option Value) (base : Heap) (x : Str) (ps : List Str) (k : Nat) (sp : Sp) : Prop :=
  ∃ (f : Addr) (fd : FuncData), FnOk P w K mg base CX k f fd ps sp ∧ mg x = some (.ref f) ∧ PySem.W.keepIn K (.ref f) = true ∧ Binds K fd ps []
section
variable {X : Cx} {x : Str} {ps : List Str} {j k : Nat} {sp : Sp} {e : Expr} {es : List Expr} {t : TA} {p pos : Pos}
theorem pe_calX {CX : CXT} {E : XK} (c : Cal CX X.prog X.w X.K X.mg X.base x ps j sp) (hr : Room k X.A) (hx : Passes CX X E) (hg : Gl X x) (ha : PA X (e :: es) t) (hj : j ≤ k := by decide) (hdb : (x == ("__debug__" : Str)) = false := by decide)
    (he : starEach (e :: es) X.env = (false, eval e X.env) :: starEach es X.env := by rfl) (hpl : (backTo pos (starEach es X.env)).any (·.1) = false := by rfl) :
    PE X (.Call (.Name x p) (e :: es) [] pos) (tCall sp [] E t) := by
  obtain ⟨f, fd, F, gf, kf, bf⟩ := c
  exact pe_call F (hr.mono hj) hg gf kf bf .nil hx ha hdb he hpl
theorem pe_cal (c : Cal CX0 X.prog X.w X.K X.mg X.base x ps j sp) (hr : Room k X.A) (hg : Gl X x) (ha : PA X (e :: es) t) (hj : j ≤ k := by decide) (hdb : (x == ("__debug__" : Str)) = false := by decide)
    (he : starEach (e :: es) X.env = (false, eval e X.env) :: starEach es X.env := by rfl) (hpl : (backTo pos (starEach es X.env)).any (·.1) = false := by rfl) :
    PE X (.Call (.Name x p) (e :: es) [] pos) (tCall sp [] E0 t) := pe_calX c hr pass0 hg ha hj hdb he hpl
end

/-! ### pairs of ints -/
def IsP (H : Hp) (v : V) (p : Pr) : Prop := ∃ t, v = .ref t ∧ H t = some (.tup [.int p.1, .int p.2])
abbrev Prs (H : Hp) : List V → List Pr → Prop := Paired (IsP H)
/-- the tuples stand as before -/
def TupS (H H' : Hp) : Prop := ∀ b xs, H b = some (.tup xs) → H' b = some (.tup xs)
theorem TupS.refl (H : Hp) : TupS H H := fun _ _ h => h
theorem TupS.trans {H H1 H2 : Hp} (a : TupS H H1) (b : TupS H1 H2) : TupS H H2 := fun c xs h => b c xs (a c xs h)
theorem Same.tups {H H' : Hp} (s : Same H H') : TupS H H' := fun b xs h => s b _ h
theorem same_new {H : Hp} {p : Addr} {o : HO} (h : H p = none) : Same H (upd H p o) := fun b x e => by
  rw [upd_ne (ne_of_none e h)]; exact e
theorem tups_lst {H : Hp} {p : Addr} {xs : List V} {o : HO} (h : H p = some (.lst xs)) : TupS H (upd H p o) := fun b ys e => by
  rw [upd_ne (ne_of e h (by intro z; cases z))]; exact e
theorem IsP.mono {H H' : Hp} (s : TupS H H') {v : V} {p : Pr} (h : IsP H v p) : IsP H' v p := by
  obtain ⟨t, e, h⟩ := h
  exact ⟨t, e, s t _ h⟩
theorem Prs.mono {H H' : Hp} (s : TupS H H') {vs : List V} {ps : List Pr} (h : Prs H vs ps) : Prs H' vs ps := Paired.mapP h fun _ _ q => q.mono s
theorem Prs.length {H : Hp} {vs : List V} {ps : List Pr} (h : Prs H vs ps) : vs.length = ps.length := Paired.length h
theorem prs_app {H : Hp} : ∀ {vs ws : List V} {ps qs : List Pr}, Prs H vs ps → Prs H ws qs → Prs H (vs ++ ws) (ps ++ qs)
  | _, _, _, _, .nil, h => h
  | _, _, _, _, .cons r t, h => .cons r (prs_app t h)
theorem prs_at {H : Hp} : ∀ {vs : List V} {ps : List Pr} {i : Nat} {v : V}, Prs H vs ps → vs[i]? = some v → ∃ p, ps[i]? = some p ∧ IsP H v p
  | _, _, _, _, .nil, e => by simp at e
  | _, _, 0, _, .cons r _, e => by simp at e; subst e; exact ⟨_, rfl, r⟩
  | _, _, i + 1, v, .cons _ t, e => by
    obtain ⟨p, h1, h2⟩ := prs_at (i := i) (v := v) t (by simpa using e)
    exact ⟨p, by simpa using h1, h2⟩
theorem prs_mem {H : Hp} {vs : List V} {ps : List Pr} {v : V} (h : Prs H vs ps) (hv : v ∈ vs) : ∃ p, p ∈ ps ∧ IsP H v p := by
  obtain ⟨i, e⟩ := List.mem_iff_getElem?.mp hv
  obtain ⟨p, h1, h2⟩ := prs_at h e
  exact ⟨p, List.mem_of_getElem? h1, h2⟩

/-! ### as data -/
def prD (p : Pr) : PyData := .tuple [.int p.1, .int p.2]
def prsD (ps : List Pr) : PyData := .list (ps.map prD)
def rowD (ns : List Int) : PyData := .list (ns.map PyData.int)
section
variable {K : PySem.W.Frag} {H : Hp}
theorem dp_pr {v : V} {p : Pr} (h : IsP H v p) : Dp K H v (prD p) := by
  obtain ⟨t, rfl, h⟩ := h
  exact .tup (SqT.of h) (.cons (.int _) (.cons (.int _) .nil))
theorem dp_prT {a : Addr} {p : Pr} (h : SqT K H a [.int p.1, .int p.2]) : Dp K H (.ref a) (prD p) := .tup h (.cons (.int _) (.cons (.int _) .nil))
theorem dpa_prs : ∀ {vs : List V} {ps : List Pr}, Prs H vs ps → DpAll K H vs (ps.map prD)
  | _, _, .nil => .nil
  | _, _, .cons r t => .cons (dp_pr r) (dpa_prs t)
theorem dp_prs {a : Addr} {vs : List V} {ps : List Pr} (h : SqL K H a vs) (r : Prs H vs ps) : Dp K H (.ref a) (prsD ps) := .lst h (dpa_prs r)
theorem dpa_ints : ∀ ns : List Int, DpAll K H (ns.map V.int) (ns.map PyData.int)
  | [] => .nil
  | n :: ns => .cons (.int n) (dpa_ints ns)
theorem dp_row {a : Addr} {ns : List Int} (h : SqL K H a (ns.map V.int)) : Dp K H (.ref a) (rowD ns) := .lst h (dpa_ints ns)
end
theorem eqv_pr (p q : Pr) : PyData.eqv (prD p) (prD q) = decide (p = q) := by
  obtain ⟨a, b⟩ := p
  obtain ⟨c, d⟩ := q
  simp only [prD, PyData.eqv, PyData.eqvAll, Prod.mk.injEq, Bool.and_true]
  rw [Bool.decide_and]
  rfl
theorem eqv_prs : ∀ ps qs : List Pr, PyData.eqv (prsD ps) (prsD qs) = decide (ps = qs)
  | [], [] => by simp [prsD, PyData.eqv, PyData.eqvAll]
  | [], _ :: _ => by simp [prsD, PyData.eqv, PyData.eqvAll]
  | _ :: _, [] => by simp [prsD, PyData.eqv, PyData.eqvAll]
  | p :: ps, q :: qs => by
    have ih := eqv_prs ps qs
    simp only [prsD, PyData.eqv] at ih
    simp only [prsD, PyData.eqv, PyData.eqvAll, List.map_cons, eqv_pr, ih, List.cons.injEq]
    rw [Bool.decide_and]
theorem eqv_row : ∀ ns ms : List Int, PyData.eqv (rowD ns) (rowD ms) = decide (ns = ms)
  | [], [] => by simp [rowD, PyData.eqv, PyData.eqvAll]
  | [], _ :: _ => by simp [rowD, PyData.eqv, PyData.eqvAll]
  | _ :: _, [] => by simp [rowD, PyData.eqv, PyData.eqvAll]
  | n :: ns, m :: ms => by
    have ih := eqv_row ns ms
    simp only [rowD, PyData.eqv] at ih
    simp only [rowD, PyData.eqv, PyData.eqvAll, List.map_cons, ih, List.cons.injEq]
    rw [Bool.decide_and]
    rfl
theorem depth_pr (p : Pr) : (prD p).depth = 1 := by simp [prD, PyData.depth, PyData.depthAll]
theorem lay_prs : ∀ ps : List Pr, PyData.canLayAll0 (ps.map prD) = true ∧ PyData.depthAll (ps.map prD) ≤ 1
  | [] => by simp [PyData.canLayAll0, PyData.depthAll]
  | p :: ps => by
    have ih := lay_prs ps
    have h := depth_pr p
    refine ⟨by simp [PyData.canLayAll0, ih.1, prD, PyData.canLay0], ?_⟩
    simp only [List.map_cons, PyData.depthAll]
    omega
theorem lay_ints : ∀ ns : List Int, PyData.canLayAll0 (ns.map PyData.int) = true ∧ PyData.depthAll (ns.map PyData.int) = 0
  | [] => by simp [PyData.canLayAll0, PyData.depthAll]
  | n :: ns => by
    have ih := lay_ints ns
    refine ⟨by simp [PyData.canLayAll0, ih.1, PyData.canLay0], ?_⟩
    simp only [List.map_cons, PyData.depthAll, PyData.depth, ih.2]
    decide
theorem shaped_pr (p : Pr) : SeqAt.shaped (prD p) = true := by
  unfold SeqAt.shaped
  rw [depth_pr, Bool.and_eq_true]
  exact ⟨by simp [prD, PyData.canLay0, PyData.canLayAll0], by decide⟩
theorem shaped_prs (ps : List Pr) : SeqAt.shaped (prsD ps) = true := by
  have h := lay_prs ps
  unfold SeqAt.shaped
  rw [Bool.and_eq_true]
  refine ⟨by simp only [prsD, PyData.canLay0]; exact h.1, decide_eq_true ?_⟩
  simp only [prsD, PyData.depth]
  omega
theorem shaped_row (ns : List Int) : SeqAt.shaped (rowD ns) = true := by
  have h := lay_ints ns
  unfold SeqAt.shaped
  rw [Bool.and_eq_true]
  refine ⟨by simp only [rowD, PyData.canLay0]; exact h.1, decide_eq_true ?_⟩
  simp only [rowD, PyData.depth]
  omega
theorem any_prs (p : Pr) (ps : List Pr) : ((ps.map prD).any fun z => PyData.eqv z (prD p)) = decide (p ∈ ps) := by
  induction ps with
  | nil => simp
  | cons q ps ih =>
    rw [List.map_cons, List.any_cons, ih, eqv_pr]
    by_cases h : q = p
    · subst h; simp
    · have h2 : ¬ p = q := fun z => h z.symm
      simp [h, h2]
end EG

/-! The program's own functions: what each answers. -/
namespace EG
open PySem L2
theorem itP {c A B : Prop} [Decidable c] (h : c) (x : A) : if c then A else B := by rw [if_pos h]; exact x
theorem itN {c A B : Prop} [Decidable c] (h : ¬ c) (x : B) : if c then A else B := by rw [if_neg h]; exact x
theorem room65 {k : Nat} {A : Around} (r : Room k A) : A.units + 65 < cLine := by have := r.un; omega
theorem dec_int (a b : Int) : decide (V.int a = V.int b) = decide (a = b) := by
  by_cases h : a = b
  · subst h; simp
  · have h2 : ¬ V.int a = V.int b := fun z => h (V.int.inj z)
    rw [decide_eq_false h, decide_eq_false h2]
/-- a list of ints that may be changed -/
def Lst (H : Hp) (a : Addr) (ns : List Int) : Prop := H a = some (.lst (ns.map V.int))
theorem Lst.sq {K : PySem.W.Frag} {H : Hp} {a : Addr} {ns : List Int} (h : Lst H a ns) : SqL K H a (ns.map V.int) := SqL.of h
theorem Lst.mono {H H' : Hp} {a : Addr} {ns : List Int} (s : Same H H') (h : Lst H a ns) : Lst H' a ns := s _ _ h
theorem row_get {ns : List Int} {i : Nat} (h : i < ns.length) : (ns.map V.int)[i]? = some (.int (ns.getD i 0)) := by
  rw [List.getElem?_map, List.getElem?_eq_getElem h, List.getD_eq_getElem?_getD, List.getElem?_eq_getElem h]; rfl
theorem row_item {ns : List Int} {i : Nat} {x : V} (h : (ns.map V.int)[i]? = some x) : ∃ n, x = .int n ∧ ns[i]? = some n := by
  rw [List.getElem?_map] at h
  cases e : ns[i]? with
  | none => rw [e] at h; cases h
  | some n => rw [e] at h; exact ⟨n, (Option.some.inj h).symm, rfl⟩
/-- is it a number -/
def Whole (K : PySem.W.Frag) (H : Hp) (x : V) (b : Bool) : Prop := ∃ (t : Value) (b1 b2 : Bool), TyX K H x t ∧ PySem.W.kitOne K t (.type "int") = some b1 ∧ (b1 = true → PySem.W.kitOne K t (.type "bool") = some b2) ∧ b = (b1 && !b2)
theorem whole_int {K : PySem.W.Frag} {H : Hp} (i : Int) : Whole K H (.int i) true := ⟨_, true, false, .base (.int i), kit_ty (by decide +kernel), fun _ => kit_ty (by decide +kernel), rfl⟩
def RowOk (ns : List Int) (m g : Int) : Prop := 1 ≤ ns.length ∧ (ns.length : Int) ≤ m ∧ ∀ x ∈ ns, 0 ≤ x ∧ x ≤ g
/-- the built-ins that the program names -/
structure Blt (mg : Str → Option Value) : Prop where
  isi : mg "isinstance" = none
  int : mg "int" = none
  bool : mg "bool" = none
  list : mg "list" = none
  len : mg "len" = none
  all : mg "all" = none
  range : mg "range" = none
  enum : mg "enumerate" = none
  tuple : mg "tuple" = none
  min : mg "min" = none
  max : mg "max" = none
  sorted : mg "sorted" = none
  sum : mg "sum" = none
  set : mg "set" = none
  any : mg "any" = none
section
variable {P : Program} {w : World} {K : PySem.W.Frag} {mg : Str → Option Value} {base : Heap}
/-! ### is_whole -/
def sp_is_whole (K : PySem.W.Frag) : Sp := fun vs H Q _ => ∃ (x : V) (b : Bool), vs = [x] ∧ Whole K H x b ∧ Q (.bl b) H
theorem ok_is_whole {f : Addr} {fd : FuncData} (F : Fun K "is_whole" "is_whole" s_is_whole f fd) (B : Blt mg) : FnOk P w K mg base CX0 1 f fd ["thing"] (sp_is_whole K) := by
  refine F.ok sc_is_whole (fun vs H Q E h => ?_) (fun cdv A outer s H vs Q E hr h => ?_)
  · obtain ⟨x, b, rfl, _⟩ := h
    rfl
  · obtain ⟨x, b, rfl, ⟨t, b1, b2, ht, h1, h2, rfl⟩, q⟩ := h
    refine ⟨_, pss_one (ps_ret (pe_and (pe_callB call_isi (by rfl) B.isi PyProof.Rows.boot_isinstance (pa_cons (pv 0) (pa_cons (pe_bltn (v := .ty "int") (by rfl) B.int PyProof.Rows.boot_int rfl) pa_nil)))
      (pe_one (pe_not (pe_callB call_isi (by rfl) B.isi PyProof.Rows.boot_isinstance (pa_cons (pv 0) (pa_cons (pe_bltn (v := .ty "bool") (by rfl) B.bool PyProof.Rows.boot_bool rfl) pa_nil))))))), ?_⟩
    refine ⟨x, rfl, _, _, _, _, b1, rfl, .ty _, ht, h1, b1, rfl, ?_⟩
    cases b1 with
    | false => exact iteF q
    | true => exact iteT ⟨x, rfl, _, _, _, _, b2, rfl, .ty _, ht, h2 rfl, b2, rfl, q⟩
/-! ### check_row, of a row -/
def sp_check_row : Sp := fun vs H Q _ => ∃ (a : Addr) (ns : List Int) (m g : Int), vs = [.ref a, .int m, .int g] ∧ Lst H a ns ∧ ns.length ≤ 900 ∧ RowOk ns m g ∧ ∀ H', Same H H' → Q .non H'
theorem ok_check_row {f : Addr} {fd : FuncData} (F : Fun K "check_row" "check_row" s_check_row f fd) (B : Blt mg) (cW : Cal CX0 P w K mg base "is_whole" ["thing"] 1 (sp_is_whole K)) :
    FnOk P w K mg base CX0 2 f fd ["row", "most", "greatest"] sp_check_row := by
  refine F.ok sc_check_row (fun vs H Q E h => ?_) (fun cdv A outer s H vs Q E hr h => ?_)
  · obtain ⟨a, ns, m, g, rfl, _⟩ := h
    rfl
  · obtain ⟨a, ns, m, g, rfl, hL, hl, ⟨h1, h2, h3⟩, q⟩ := h
    refine ⟨_, pss_cons (ps_if (PW.pt (pw_or (pt_not (pt_val (pe_callB call_isi (by rfl) B.isi PyProof.Rows.boot_isinstance (pa_cons (pv 0) (pa_cons (pe_bltn (v := .ty "list") (by rfl) B.list PyProof.Rows.boot_list rfl) pa_nil)))))
          (pw_or1 (pt_not (pt_chain op_le op_le pe_int (pe_callB call_len_seq (by rfl) B.len PySem.boot_len (pa_cons (pv 0) pa_nil)) (pv 1))))))
        (pss_one ps_never) pss_nil)
      (pss_one (ps_if (pt_not (pt_val (pe_callB (cr_all rfl) (by rfl) B.all PyProof.Rows.boot_all (pa_cons
          (pe_lc (own := [("one", 3)]) (g := gName 3) (tt := tYes) rfl sc_check_row.nd (pi_list (pv 0)) (blkOk_by (N := ["row", "most", "greatest", "one"]) (sc := defScope s_check_row) (by decide +kernel))
            (fun _ _ _ _ _ => pg_name (i := 3) sc_check_row.nd rfl (Or.inl rfl)) (fun _ _ _ _ _ => pts_nil)
            (fun _ _ _ _ _ => pe_and (pe_cal cW hr (by rfl) (pa_cons (pv 3) pa_nil)) (pe_one (pe_chain op_le op_le pe_int (pv 3) (pv 2))))) pa_nil))))
        (pss_one ps_never) pss_nil)), ?_⟩
    refine ⟨.ref a, rfl, _, _, _, _, true, rfl, .ty _, .base (.lst hL), kit_ty (by decide +kernel), true, rfl, iteF ?_⟩
    have e1 : decide ((1 : Int) ≤ ((ns.map V.int).length : Int)) = true := decide_eq_true (by rw [List.length_map]; omega)
    have e2 : decide (((ns.map V.int).length : Int) ≤ m) = true := decide_eq_true (by rw [List.length_map]; omega)
    refine ⟨.ref a, rfl, a, _, rfl, .inl hL.sq, _, _, rfl, rfl, _, rfl, itP e1 ⟨.int m, rfl, _, _, rfl, rfl, _, rfl, itN (by rw [e2]; decide) ?_⟩⟩
    -- the numbers
    refine ⟨.ref a, rfl, a, rfl, ⟨_, hL.sq⟩, fun D hD => lc_list (K := K) (a := a) (xs := ns.map V.int)
      (fun i H' => Same H H' ∧ H' D = some (.lst ((List.replicate i true).map V.bl))) ⟨same_new hD, upd_same⟩ (fun i H' _ h => (hL.mono h.1).sq) (fun i x H' hx h => ?_) (fun H' h => ?_)⟩
    · obtain ⟨n, rfl, hn⟩ := row_item hx
      have hil := (List.getElem?_eq_some_iff.mp hn).1
      obtain ⟨h5, h6⟩ := h3 n (List.mem_of_getElem? hn)
      refine ⟨rfl, iteT (B := True) ⟨.int n, rfl, _, true, rfl, whole_int n, true, rfl, iteT ⟨.int n, rfl, _, _, rfl, rfl, _, rfl, itP (decide_eq_true h5) ⟨.int g, rfl, _, _, rfl, rfl, ?_⟩⟩⟩⟩
      refine ⟨_, h.2, small1000 (by rw [List.length_map, List.length_replicate]; omega), ⟨fun b o e => ?_, ?_⟩⟩
      · rw [upd_ne (ne_of_none e hD)]
        exact h.1 b o e
      · have e6 : V.bl (decide (n ≤ g)) = V.bl true := by rw [decide_eq_true h6]
        rw [upd_same, List.replicate_succ', List.map_append]
        exact congrArg (fun z => some (HO.lst (_ ++ [z]))) e6
    · refine ⟨D, List.replicate ns.length true, rfl, SqL.of (by rw [h.2, List.length_map]), _, rfl, itN (by simp) (q H' h.1)⟩
/-! ### evenings_of -/
theorem evI_len (ns : List Int) (i k : Nat) : (evI ns i k).length ≤ k := by
  unfold evI
  rw [List.length_map]
  exact Nat.le_trans (List.length_filter_le _ _) (by rw [List.length_range']; exact Nat.le_refl _)
theorem evN_len (ns : List Int) : ∀ m, (evN ns m).length ≤ m * ns.length
  | 0 => Nat.zero_le _
  | m + 1 => by
    have ih := evN_len ns m
    have h := evI_len ns m (ns.length - (m + 1))
    rw [evN_succ, List.length_append, Nat.succ_mul]
    omega
theorem evs_len {ns : List Int} (h : ns.length ≤ 12) : (evs ns).length ≤ 144 := Nat.le_trans (evN_len ns _) (Nat.le_trans (Nat.mul_le_mul h h) (by decide))
def sp_evenings_of (K : PySem.W.Frag) : Sp := fun vs H Q _ => ∃ (a : Addr) (ns : List Int), vs = [.ref a] ∧ SqL K H a (ns.map V.int) ∧ ns.length ≤ 12 ∧
  ∀ H' p ws, Same H H' → H p = none → H' p = some (.lst ws) → Prs H' ws (evs ns) → Q (.ref p) H'
theorem ok_evenings_of {f : Addr} {fd : FuncData} (F : Fun K "evenings_of" "evenings_of" s_evenings_of f fd) (B : Blt mg) : FnOk P w K mg base CX0 1 f fd ["row"] (sp_evenings_of K) := by
  refine F.ok sc_evenings_of (fun vs H Q E h => ?_) (fun cdv A outer s H vs Q E hr h => ?_)
  · obtain ⟨a, ns, rfl, _⟩ := h
    rfl
  · obtain ⟨a, ns, rfl, hS, hl, q⟩ := h
    refine ⟨_, pss_cons (ps_set (i := 1) sc_evenings_of.nd rfl (.inl rfl) (pe_lst pa_nil))
      (pss_cons (ps_for PassesOwn.never rfl (pi_range1 (by rfl) B.range (pa_cons (pe_callB call_len_seq (by rfl) B.len PySem.boot_len (pa_cons (pv 0) pa_nil)) pa_nil)) (pg_name (i := 2) sc_evenings_of.nd rfl (.inl rfl))
        (pss_one (ps_for PassesOwn.never rfl (pi_range2 (by rfl) B.range (pa_cons (pe_op op_add (pv 2) pe_int) (pa_cons (pe_callB call_len_seq (by rfl) B.len PySem.boot_len (pa_cons (pv 0) pa_nil)) pa_nil))) (pg_name (i := 3) sc_evenings_of.nd rfl (.inl rfl))
          (pss_one (ps_if (PW.pt (pw_and (pt_cmpR op_ne (pe_ix ix_list (pv 0) (pv 2) (fun _ _ => rfl)) (pe_ix ix_list (pv 0) (pv 3) (fun _ _ => rfl)) (nomark _))
              (pw_and1 (pt_cmpR op_eq (pe_op op_mod (pe_op op_add (pe_ix ix_list (pv 0) (pv 2) (fun _ _ => rfl)) (pe_ix ix_list (pv 0) (pv 3) (fun _ _ => rfl))) pe_int) pe_int (nomark _)))))
            (pss_one (ps_expr (pe_bm PySem.F.plainAttrs_list PySem.F.slot_list_append PySem.F.type_list_append mt_append (pv 1) (pa_cons (pe_tup (pa_cons (pv 2) (pa_cons (pv 3) pa_nil))) pa_nil))))
            pss_nil)))))
      (pss_one (ps_ret (pv 1)))), ?_⟩
    refine ⟨Nat.zero_le _, fun o ho => ?_⟩
    have s0 : Same H (upd H o (.lst [])) := same_new ho
    have en : (((ns.map V.int).length : Int)).toNat = ns.length := by rw [List.length_map]; omega
    refine ⟨.ref a, rfl, a, _, rfl, .inl (s0.seq hS), _, rfl, by rw [List.length_map]; omega, by rw [List.length_map]; omega, for_range
      (fun i σ H' => ∃ y2 y3 ws, σ = [some (.ref a), some (.ref o), y2, y3] ∧ Same H H' ∧ H' o = some (.lst ws) ∧ Prs H' ws (evN ns i))
      ⟨none, none, [], rfl, s0, upd_same, .nil⟩ (fun i σ H1 hi h => ?_) (fun σ H1 h => ?_)⟩
    · obtain ⟨y2, y3, ws, rfl, s1, h1, r1⟩ := h
      rw [en] at hi
      have ei : (((ns.map V.int).length : Int) - (0 + (i : Int) + 1)).toNat = ns.length - (i + 1) := by rw [List.length_map]; omega
      refine ⟨.int (0 + (i : Int)), rfl, _, _, rfl, rfl, .ref a, rfl, a, _, rfl, .inl (s1.seq hS), _, _, rfl, ⟨by omega, by omega, by rw [List.length_map]; omega, by rw [List.length_map]; omega⟩, for_range
        (fun k σ H' => ∃ y3 ws, σ = [some (.ref a), some (.ref o), some (.int (0 + (i : Int))), y3] ∧ Same H H' ∧ H' o = some (.lst ws) ∧ Prs H' ws (evN ns i ++ evI ns i k))
        ⟨y3, ws, rfl, s1, h1, by simpa [evI] using r1⟩ (fun k σ H2 hk h => ?_) (fun σ H2 h => ?_)⟩
      · obtain ⟨y4, ws, rfl, s2, h2, r2⟩ := h
        rw [ei] at hk
        have hA := s2.seq hS
        have hj : i + 1 + k < ns.length := by omega
        have g1 : atI (ns.map V.int) (0 + (i : Int)) = some (.int (ns.getD i 0)) := at_of (by omega) (row_get hi)
        have g2 : atI (ns.map V.int) (0 + (i : Int) + 1 + (k : Int)) = some (.int (ns.getD (i + 1 + k) 0)) := at_of (j := i + 1 + k) (by omega) (row_get hj)
        have hlen : ws.length < sizeLine := by
          rw [r2.length, List.length_append]
          have l1 := evN_len ns i
          have l2 := evI_len ns i k
          have l3 : i * ns.length ≤ 12 * 12 := Nat.mul_le_mul (by omega) (by omega)
          exact small1000 (by omega)
        refine ⟨.ref a, rfl, .int (0 + (i : Int)), rfl, a, _, _, _, rfl, rfl, hA, g1, .ref a, rfl, .int (0 + (i : Int) + 1 + (k : Int)), rfl, a, _, _, _, rfl, rfl, hA, g2, rfl, _, rfl, ?_⟩
        rw [dec_int]
        by_cases c1 : ns.getD i 0 = ns.getD (i + 1 + k) 0
        · refine itN (by rw [decide_eq_true c1]; decide) (iteF ?_)
          refine ⟨_, ws, rfl, s2, h2, ?_⟩
          rw [evI_succ, if_neg (by unfold goodP; rw [decide_eq_true c1]; simp), List.append_nil]
          exact r2
        · refine itP (by rw [decide_eq_false c1]; rfl) ?_
          refine ⟨.ref a, rfl, .int (0 + (i : Int)), rfl, a, _, _, _, rfl, rfl, hA, g1, .ref a, rfl, .int (0 + (i : Int) + 1 + (k : Int)), rfl, a, _, _, _, rfl, rfl, hA, g2, _, _, rfl, rfl, _, _, rfl, rfl, (by show (0 : Int) < 2; decide), rfl, _, rfl, ?_⟩
          rw [dec_int]
          by_cases c2 : (ns.getD i 0 + ns.getD (i + 1 + k) 0) % 2 = 0
          · refine itP (decide_eq_true c2) ?_
            refine ⟨.ref o, rfl, .inl ⟨rfl, _, SqL.of h2⟩, .int (0 + (i : Int)), rfl, .int (0 + (i : Int) + 1 + (k : Int)), rfl, (by show 2 ≤ sizeLine; decide), fun t ht => ?_⟩
            have st : Same H2 (upd H2 t (.tup [.int (0 + (i : Int)), .int (0 + (i : Int) + 1 + (k : Int))])) := same_new ht
            refine ⟨o, ws, _, rfl, rfl, st _ _ h2, hlen, ?_⟩
            have sT : TupS H2 (upd (upd H2 t (.tup [.int (0 + (i : Int)), .int (0 + (i : Int) + 1 + (k : Int))])) o (.lst (ws ++ [.ref t]))) := (Same.tups st).trans (tups_lst (st _ _ h2))
            refine ⟨_, _, rfl, fun b x e => ?_, upd_same, ?_⟩
            · rw [upd_ne (ne_of_none e ho)]
              exact st _ _ (s2 _ _ e)
            · rw [evI_succ, if_pos (by unfold goodP; rw [decide_eq_false c1, decide_eq_true c2]; rfl), ← List.append_assoc]
              refine prs_app (r2.mono sT) (.cons ⟨t, rfl, ?_⟩ .nil)
              have nt : t ≠ o := (ne_of_none h2 ht).symm
              rw [upd_ne nt, upd_same, show (0 : Int) + (i : Int) = ((i : Nat) : Int) by omega, show ((i : Nat) : Int) + 1 + (k : Int) = ((i + 1 + k : Nat) : Int) by omega]
          · refine itN (by rw [decide_eq_false c2]; decide) ?_
            refine ⟨_, ws, rfl, s2, h2, ?_⟩
            rw [evI_succ, if_neg (by unfold goodP; rw [decide_eq_false c2]; simp), List.append_nil]
            exact r2
      · obtain ⟨y4, ws, rfl, s2, h2, r2⟩ := h
        rw [ei] at r2
        exact ⟨_, _, ws, rfl, s2, h2, by rw [evN_succ]; exact r2⟩
    · obtain ⟨y2, y3, ws, rfl, s1, h1, r1⟩ := h
      rw [en] at r1
      exact ⟨.ref o, rfl, q H1 o ws s1 ho h1 r1⟩
/-! ### evenings, settled -/
def sp_evenings : Sp := fun vs H Q _ => ∃ (a : Addr) (ns : List Int), vs = [.ref a] ∧ Lst H a ns ∧ RowOk ns 12 1000000 ∧
  ∀ H' p ws, Same H H' → H p = none → H' p = some (.lst ws) → Prs H' ws (evs ns) → Q (.ref p) H'
theorem RowOk.len12 {ns : List Int} {g : Int} (h : RowOk ns 12 g) : ns.length ≤ 12 := by have := h.2.1; omega
theorem ok_evenings {f : Addr} {fd : FuncData} {t1 t2 : Tok} (F : Fun K "evenings" "evenings" s_evenings f fd) (cC : Cal CX0 P w K mg base "check_row" ["row", "most", "greatest"] 2 sp_check_row)
    (cE : Cal CX0 P w K mg base "evenings_of" ["row"] 1 (sp_evenings_of K)) (g1 : mg "MOST" = some (.int 12 t1)) (g2 : mg "GREATEST" = some (.int 1000000 t2)) : FnOk P w K mg base CX0 3 f fd ["row"] sp_evenings := by
  refine F.ok sc_evenings (fun vs H Q E h => ?_) (fun cdv A outer s H vs Q E hr h => ?_)
  · obtain ⟨a, ns, rfl, _⟩ := h
    rfl
  · obtain ⟨a, ns, rfl, hL, ok, q⟩ := h
    refine ⟨_, pss_cons (ps_expr (pe_cal cC hr (by rfl) (pa_cons (pv 0) (pa_cons (pe_glob (v := .int 12) (by rfl) g1 ⟨_, rfl⟩) (pa_cons (pe_glob (v := .int 1000000) (by rfl) g2 ⟨_, rfl⟩) pa_nil)))))
      (pss_one (ps_ret (pe_cal cE hr (by rfl) (pa_cons (pv 0) pa_nil)))), ?_⟩
    have l12 := ok.len12
    refine ⟨.ref a, rfl, a, ns, 12, 1000000, rfl, hL, by omega, ok, fun H1 s1 => ?_⟩
    exact ⟨.ref a, rfl, a, ns, rfl, (hL.mono s1).sq, l12, fun H2 p ws s2 hp e r => q H2 p ws (s1.trans s2) (s1.free hp) e r⟩
def sp_settled : Sp := fun vs H Q _ => ∃ (a : Addr) (ns : List Int), vs = [.ref a] ∧ Lst H a ns ∧ RowOk ns 12 1000000 ∧
  ∀ H', Same H H' → Q (.bl (decide (evs ns = []))) H'
theorem ok_settled {f : Addr} {fd : FuncData} {t1 t2 : Tok} (F : Fun K "settled" "settled" s_settled f fd) (cC : Cal CX0 P w K mg base "check_row" ["row", "most", "greatest"] 2 sp_check_row)
    (cE : Cal CX0 P w K mg base "evenings_of" ["row"] 1 (sp_evenings_of K)) (g1 : mg "MOST" = some (.int 12 t1)) (g2 : mg "GREATEST" = some (.int 1000000 t2)) : FnOk P w K mg base CX0 3 f fd ["row"] sp_settled := by
  refine F.ok sc_settled (fun vs H Q E h => ?_) (fun cdv A outer s H vs Q E hr h => ?_)
  · obtain ⟨a, ns, rfl, _⟩ := h
    rfl
  · obtain ⟨a, ns, rfl, hL, ok, q⟩ := h
    refine ⟨_, pss_cons (ps_expr (pe_cal cC hr (by rfl) (pa_cons (pv 0) (pa_cons (pe_glob (v := .int 12) (by rfl) g1 ⟨_, rfl⟩) (pa_cons (pe_glob (v := .int 1000000) (by rfl) g2 ⟨_, rfl⟩) pa_nil)))))
      (pss_one (ps_ret (pe_cmpR (op_eqD hr.units) (pe_cal cE hr (by rfl) (pa_cons (pv 0) pa_nil)) (pe_lst pa_nil) (nomark _)))), ?_⟩
    have l12 := ok.len12
    refine ⟨.ref a, rfl, a, ns, 12, 1000000, rfl, hL, by omega, ok, fun H1 s1 => ?_⟩
    refine ⟨.ref a, rfl, a, ns, rfl, (hL.mono s1).sq, l12, fun H2 p ws s2 hp e r => ?_⟩
    refine ⟨Nat.zero_le _, fun z hz => ?_⟩
    have s3 : Same H2 (upd H2 z (.lst [])) := same_new hz
    refine ⟨prsD (evs ns), prsD [], dp_prs (SqL.of (s3 _ _ e)) (r.mono (Same.tups s3)), dp_prs (SqL.of upd_same) .nil, shaped_prs _, shaped_prs _, ?_⟩
    rw [eqv_prs]
    exact q _ ((s1.trans s2).trans s3)
/-! ### behind -/
def sp_behind (K : PySem.W.Frag) : Sp := fun vs H Q _ => ∃ (a e : Addr) (ns : List Int) (i j : Nat), vs = [.ref a, .ref e] ∧ SqL K H a (ns.map V.int) ∧ SqT K H e [.int (i : Int), .int (j : Int)] ∧ i < ns.length ∧ j < ns.length ∧ ns.length ≤ 12 ∧
  ∀ H' p, Same H H' → H p = none → Lst H' p (beh ns i j) → Q (.ref p) H'
theorem Same.seqT {K : PySem.W.Frag} {H H' : Hp} {a : Addr} {xs : List V} (e : Same H H') (h : SqT K H a xs) : SqT K H' a xs := by
  rcases h with (h | ⟨o, h⟩) | h
  · exact .inl (.inl (e _ _ h))
  · exact .inl (.inr ⟨o, e _ _ h⟩)
  · exact .inr h
theorem ok_behind {f : Addr} {fd : FuncData} (F : Fun K "behind" "behind" s_behind f fd) (B : Blt mg) : FnOk P w K mg base CX0 1 f fd ["row", "evening"] (sp_behind K) := by
  refine F.ok sc_behind (fun vs H Q E h => ?_) (fun cdv A outer s H vs Q E hr h => ?_)
  · obtain ⟨a, e, ns, i, j, rfl, _⟩ := h
    rfl
  · obtain ⟨a, e, ns, i, j, rfl, hS, hT, hi, hj, hl, q⟩ := h
    refine ⟨_, pss_cons (ps_asg (pv 1) (pg_tup rfl (pgs_cons (pg_name (i := 2) sc_behind.nd rfl (.inr rfl)) (pgs_cons (pg_name (i := 3) sc_behind.nd rfl (.inr rfl)) pgs_nil))))
      (pss_cons (ps_set (i := 4) sc_behind.nd rfl (.inr rfl) (pe_op op_fdiv (pe_op op_add (pe_ix ix_list (pv 0) (pv 2) (fun _ _ => rfl)) (pe_ix ix_list (pv 0) (pv 3) (fun _ _ => rfl))) pe_int))
      (pss_one (ps_ret (pe_lc (own := [("place", 5), ("number", 6)]) (g := gTup K 2 (gCons (gName 5) (gCons (gName 6) gNil))) (tt := tYes) rfl sc_behind.nd (pi_enum (by rfl) B.enum (pa_cons (pv 0) pa_nil)) (blkOk_by (N := ["row", "evening", "one", "other", "half", "place", "number"]) (sc := defScope s_behind) (by decide +kernel))
        (fun _ _ _ _ _ => pg_tup rfl (pgs_cons (pg_name (i := 5) sc_behind.nd rfl (.inl rfl)) (pgs_cons (pg_name (i := 6) sc_behind.nd rfl (.inl rfl)) pgs_nil))) (fun _ _ _ _ _ => pts_nil)
        (fun _ _ _ _ _ => pe_ifExp (pt_cmpR (r := rIn K false) op_in_seq (pv 5) (pe_tup (pa_cons (pv 2) (pa_cons (pv 3) pa_nil))) (by rfl)) (pv 4) (pv 6)))))), ?_⟩
    have g1 : atI (ns.map V.int) (i : Int) = some (.int (ns.getD i 0)) := atI_nat (row_get hi)
    have g2 : atI (ns.map V.int) (j : Int) = some (.int (ns.getD j 0)) := atI_nat (row_get hj)
    refine ⟨.ref e, rfl, e, _, rfl, hT, rfl, _, _, rfl, _, _, rfl, rfl, ?_⟩
    refine ⟨.ref a, rfl, .int (i : Int), rfl, a, _, _, _, rfl, rfl, hS, g1, .ref a, rfl, .int (j : Int), rfl, a, _, _, _, rfl, rfl, hS, g2, _, _, rfl, rfl, _, _, rfl, rfl, ⟨by decide, by decide⟩, ?_⟩
    refine ⟨.ref a, rfl, a, _, rfl, hS, fun D hD => ?_⟩
    have s0 : Same H (upd H D (.lst [])) := same_new hD
    refine ⟨fun k m H' => k + m = ns.length ∧ Same H H' ∧ H' D = some (.lst (((beh ns i j).take k).map V.int)), ⟨ns.length, by omega, s0, upd_same⟩, fun k m H1 h => ?_⟩
    obtain ⟨hk, s1, h1⟩ := h
    by_cases hlt : k < ns.length
    · refine .inr ⟨⟨_, _, s1.seq hS, row_get hlt⟩, fun H' => Same H H' ∧ H' D = some (.lst (((beh ns i j).take (k + 1)).map V.int)), fun H' h => ⟨m - 1, by omega, by omega, h.1, h.2⟩, fun x H' hy => ?_⟩
      obtain ⟨T, y, rfl, nT, rfl, fy⟩ := hy
      have ey : y = .int (ns.getD k 0) := Option.some.inj ((fy _ (s1.seq hS)).symm.trans (row_get hlt))
      subst ey
      have s2 : Same H1 (upd H1 T (.tup [.int (k : Nat), .int (ns.getD k 0)])) := same_new nT
      refine ⟨T, _, rfl, SqT.of upd_same, rfl, _, _, rfl, _, _, rfl, rfl, rfl, iteT (B := True) ?_⟩
      refine ⟨.int (k : Nat), rfl, .int (i : Int), rfl, .int (j : Int), rfl, (by show 2 ≤ sizeLine; decide), fun t ht => ?_⟩
      have s3 : Same (upd H1 T (.tup [.int (k : Nat), .int (ns.getD k 0)])) (upd (upd H1 T (.tup [.int (k : Nat), .int (ns.getD k 0)])) t (.tup [.int (i : Int), .int (j : Int)])) := same_new ht
      have s4 := (s1.trans s2).trans s3
      have hD4 := (s2.trans s3) _ _ h1
      have lenD : (((beh ns i j).take k).map V.int).length < sizeLine := by
        rw [List.length_map, List.length_take, beh_length]
        exact small1000 (by omega)
      have eg := beh_get ns i j k hlt
      have fin : ∀ z : V, z = .int (if k = i ∨ k = j then half ns i j else ns.getD k 0) → Same H (upd (upd (upd H1 T (.tup [.int (k : Nat), .int (ns.getD k 0)])) t (.tup [.int (i : Int), .int (j : Int)])) D (.lst (((beh ns i j).take k).map V.int ++ [z]))) ∧
          (upd (upd (upd H1 T (.tup [.int (k : Nat), .int (ns.getD k 0)])) t (.tup [.int (i : Int), .int (j : Int)])) D (.lst (((beh ns i j).take k).map V.int ++ [z]))) D = some (.lst (((beh ns i j).take (k + 1)).map V.int)) := fun z ez => by
        refine ⟨fun b o e => ?_, ?_⟩
        · rw [upd_ne (ne_of_none e hD)]
          exact s4 _ _ e
        · rw [upd_same, List.take_add_one, eg, List.map_append, ez]
          rfl
      refine ⟨t, _, rfl, .inr (SqT.of upd_same), rfl, rfl, _, rfl, ?_⟩
      have ein : (if false = true then !inV (V.int (k : Nat)) [V.int (i : Int), V.int (j : Int)] else inV (V.int (k : Nat)) [V.int (i : Int), V.int (j : Int)]) = decide (k = i ∨ k = j) := by
        rw [if_neg Bool.false_ne_true]
        unfold inV eqV
        simp only [List.any_cons, List.any_nil, Bool.or_false]
        by_cases c1 : k = i
        · subst c1; simp
        · by_cases c2 : k = j
          · subst c2; simp
          · have q1 : ((i : Int) == ((k : Nat) : Int)) = false := beq_eq_false_iff_ne.mpr (by omega)
            have q2 : ((j : Int) == ((k : Nat) : Int)) = false := beq_eq_false_iff_ne.mpr (by omega)
            rw [q1, q2]; simp [c1, c2]
      rw [ein]
      by_cases c : k = i ∨ k = j
      · refine itP (decide_eq_true c) ⟨_, rfl, _, hD4, lenD, fin _ ?_⟩
        rw [if_pos c]
        rfl
      · refine itN (by rw [decide_eq_false c]; decide) ⟨_, rfl, _, hD4, lenD, fin _ ?_⟩
        rw [if_neg c]
    · refine .inl ⟨⟨_, s1.seq hS, by rw [List.length_map]; omega⟩, ?_⟩
      rw [List.take_of_length_le (by rw [beh_length]; omega)] at h1
      exact q H1 D s1 hD h1
end
end EG

/-! check_evening, evened, fall: of an evening that can be. -/
namespace EG
open PySem L2
def behP (ns : List Int) (p : Pr) : List Int := beh ns p.1.toNat p.2.toNat
def fallP (ns : List Int) (p : Pr) : Int := (ns.getD p.1.toNat 0 - ns.getD p.2.toNat 0) * (ns.getD p.1.toNat 0 - ns.getD p.2.toNat 0) / 2
section
variable {P : Program} {w : World} {K : PySem.W.Frag} {mg : Str → Option Value} {base : Heap}
theorem tup_list {H : Hp} {e : Addr} {xs : List V} (h : H e = some (.tup xs)) {K : PySem.W.Frag} : SqT K H e xs := SqT.of h
def sp_check_evening : Sp := fun vs H Q _ => ∃ (a e : Addr) (ns : List Int) (p : Pr), vs = [.ref a, .ref e] ∧ Lst H a ns ∧ RowOk ns 12 1000000 ∧ H e = some (.tup [.int p.1, .int p.2]) ∧ p ∈ evs ns ∧ ∀ H', Same H H' → Q .non H'
theorem ok_check_evening {f : Addr} {fd : FuncData} {t1 t2 : Tok} (F : Fun K "check_evening" "check_evening" s_check_evening f fd) (B : Blt mg) (cW : Cal CX0 P w K mg base "is_whole" ["thing"] 1 (sp_is_whole K))
    (cC : Cal CX0 P w K mg base "check_row" ["row", "most", "greatest"] 2 sp_check_row)
    (cE : Cal CX0 P w K mg base "evenings_of" ["row"] 1 (sp_evenings_of K)) (g1 : mg "MOST" = some (.int 12 t1)) (g2 : mg "GREATEST" = some (.int 1000000 t2)) : FnOk P w K mg base CX0 3 f fd ["row", "evening"] sp_check_evening := by
  refine F.ok sc_check_evening (fun vs H Q E h => ?_) (fun cdv A outer s H vs Q E hr h => ?_)
  · obtain ⟨a, e, ns, p, rfl, _⟩ := h
    rfl
  · obtain ⟨a, e, ns, p, rfl, hL, ok, hT, hp, q⟩ := h
    refine ⟨_, pss_cons (ps_expr (pe_cal cC hr (by rfl) (pa_cons (pv 0) (pa_cons (pe_glob (v := .int 12) (by rfl) g1 ⟨_, rfl⟩) (pa_cons (pe_glob (v := .int 1000000) (by rfl) g2 ⟨_, rfl⟩) pa_nil)))))
      (pss_cons (ps_if (PW.pt (pw_or (pt_not (pt_val (pe_callB call_isi (by rfl) B.isi PyProof.Rows.boot_isinstance (pa_cons (pv 1) (pa_cons (pe_bltn (v := .ty "tuple") (by rfl) B.tuple PyProof.Rows.boot_tuple rfl) pa_nil)))))
          (pw_or (pt_cmpR op_ne (pe_callB call_len_seq (by rfl) B.len PySem.boot_len (pa_cons (pv 1) pa_nil)) pe_int (nomark _))
          (pw_or1 (pt_not (pt_val (pe_callB (cr_all rfl) (by rfl) B.all PyProof.Rows.boot_all (pa_cons
            (pe_lc (own := [("one", 2)]) (g := gName 2) (tt := tYes) rfl sc_check_evening.nd (pi_tup (pv 1)) (blkOk_by (N := ["row", "evening", "one"]) (sc := defScope s_check_evening) (by decide +kernel))
              (fun _ _ _ _ _ => pg_name (i := 2) sc_check_evening.nd rfl (Or.inl rfl)) (fun _ _ _ _ _ => pts_nil)
              (fun _ _ _ _ _ => pe_cal cW hr (by rfl) (pa_cons (pv 2) pa_nil))) pa_nil))))))))
        (pss_one ps_never) pss_nil)
      (pss_one (ps_if (pt_cmpR (op_notInD (room65 hr)) (pv 1) (pe_cal cE hr (by rfl) (pa_cons (pv 0) pa_nil)) (by rfl))
        (pss_one ps_never) pss_nil))), ?_⟩
    have l12 := ok.len12
    refine ⟨.ref a, rfl, a, ns, 12, 1000000, rfl, hL, by omega, ok, fun H1 s1 => ?_⟩
    have hT1 := s1 _ _ hT
    refine ⟨.ref e, rfl, _, _, _, _, true, rfl, .ty _, .base (.tup hT1), kit_ty (by decide +kernel), true, rfl, iteF ?_⟩
    refine ⟨.ref e, rfl, e, _, rfl, .inr (SqT.of hT1), rfl, _, rfl, iteNS rfl ?_⟩
    refine ⟨.ref e, rfl, e, rfl, ⟨_, SqT.of hT1⟩, fun D hD => lc_tup (K := K) (a := e) (xs := [.int p.1, .int p.2])
      (fun i H' => Same H1 H' ∧ H' D = some (.lst ((List.replicate i true).map V.bl))) ⟨same_new hD, upd_same⟩ (fun i H' _ h => SqT.of (h.1 _ _ hT1)) (fun i x H' hx h => ?_) (fun H' h => ?_)⟩
    · have hil := (List.getElem?_eq_some_iff.mp hx).1
      obtain ⟨n, rfl⟩ : ∃ n, x = .int n := by
        have hm := List.mem_of_getElem? hx
        rcases List.mem_cons.mp hm with e | hm
        · exact ⟨_, e⟩
        · exact ⟨_, List.mem_singleton.mp hm⟩
      refine ⟨rfl, iteT (B := True) ⟨.int n, rfl, _, true, rfl, whole_int n, ?_⟩⟩
      refine ⟨_, h.2, small1000 (by rw [List.length_map, List.length_replicate]; show i ≤ 1000; simp at hil; omega), ⟨fun b o e => ?_, ?_⟩⟩
      · rw [upd_ne (ne_of_none e hD)]
        exact h.1 b o e
      · rw [upd_same, List.replicate_succ', List.map_append]
        rfl
    · refine ⟨D, List.replicate 2 true, rfl, SqL.of h.2, true, rfl, iteF ?_⟩
      refine ⟨.ref e, rfl, .ref a, rfl, a, ns, rfl, ((hL.mono s1).mono h.1).sq, l12, fun H2 o ws s2 ho e1 r => ?_⟩
      refine ⟨prD p, (evs ns).map prD, dp_prT (SqT.of (s2 _ _ (h.1 _ _ hT1))), dp_prs (SqL.of e1) r, shaped_pr _, shaped_prs _, _, rfl, ?_⟩
      rw [any_prs, decide_eq_true hp]
      exact iteF (q H2 ((s1.trans h.1).trans s2))
def sp_evened : Sp := fun vs H Q _ => ∃ (a e : Addr) (ns : List Int) (p : Pr), vs = [.ref a, .ref e] ∧ Lst H a ns ∧ RowOk ns 12 1000000 ∧ H e = some (.tup [.int p.1, .int p.2]) ∧ p ∈ evs ns ∧
  ∀ H' o, Same H H' → H o = none → Lst H' o (behP ns p) → Q (.ref o) H'
theorem ok_evened {f : Addr} {fd : FuncData} (F : Fun K "evened" "evened" s_evened f fd) (cC : Cal CX0 P w K mg base "check_evening" ["row", "evening"] 3 sp_check_evening)
    (cB : Cal CX0 P w K mg base "behind" ["row", "evening"] 1 (sp_behind K)) : FnOk P w K mg base CX0 4 f fd ["row", "evening"] sp_evened := by
  refine F.ok sc_evened (fun vs H Q E h => ?_) (fun cdv A outer s H vs Q E hr h => ?_)
  · obtain ⟨a, e, ns, p, rfl, _⟩ := h
    rfl
  · obtain ⟨a, e, ns, p, rfl, hL, ok, hT, hp, q⟩ := h
    refine ⟨_, pss_cons (ps_expr (pe_cal cC hr (by rfl) (pa_cons (pv 0) (pa_cons (pv 1) pa_nil)))) (pss_one (ps_ret (pe_cal cB hr (by rfl) (pa_cons (pv 0) (pa_cons (pv 1) pa_nil))))), ?_⟩
    refine ⟨.ref a, rfl, .ref e, rfl, a, e, ns, p, rfl, hL, ok, hT, hp, fun H1 s1 => ?_⟩
    obtain ⟨i, j, ep, hij, hj, hg⟩ := mem_evs.mp hp
    subst ep
    have l12 := ok.len12
    refine ⟨.ref a, rfl, .ref e, rfl, a, e, ns, i, j, rfl, (hL.mono s1).sq, SqT.of (s1 _ _ hT), by omega, hj, l12, fun H2 o s2 ho h2 => ?_⟩
    exact q H2 o (s1.trans s2) (s1.free ho) h2
def sp_fall : Sp := fun vs H Q _ => ∃ (a e : Addr) (ns : List Int) (p : Pr), vs = [.ref a, .ref e] ∧ Lst H a ns ∧ RowOk ns 12 1000000 ∧ H e = some (.tup [.int p.1, .int p.2]) ∧ p ∈ evs ns ∧ ∀ H', Same H H' → Q (.int (fallP ns p)) H'
theorem RowOk.getD {ns : List Int} {m g : Int} (h : RowOk ns m g) {i : Nat} (hi : i < ns.length) : 0 ≤ ns.getD i 0 ∧ ns.getD i 0 ≤ g := by
  have e : ns.getD i 0 = ns[i] := by rw [List.getD_eq_getElem?_getD, List.getElem?_eq_getElem hi]; rfl
  rw [e]
  exact h.2.2 _ (List.getElem_mem hi)
theorem ok_fall {f : Addr} {fd : FuncData} (F : Fun K "fall" "fall" s_fall f fd) (cC : Cal CX0 P w K mg base "check_evening" ["row", "evening"] 3 sp_check_evening) : FnOk P w K mg base CX0 4 f fd ["row", "evening"] sp_fall := by
  refine F.ok sc_fall (fun vs H Q E h => ?_) (fun cdv A outer s H vs Q E hr h => ?_)
  · obtain ⟨a, e, ns, p, rfl, _⟩ := h
    rfl
  · obtain ⟨a, e, ns, p, rfl, hL, ok, hT, hp, q⟩ := h
    refine ⟨_, pss_cons (ps_expr (pe_cal cC hr (by rfl) (pa_cons (pv 0) (pa_cons (pv 1) pa_nil))))
      (pss_cons (ps_set (i := 2) sc_fall.nd rfl (.inl rfl) (pe_op op_sub (pe_ix ix_list (pv 0) (pe_ix ix_tup (pv 1) pe_int (fun _ _ => rfl)) (fun _ _ => rfl)) (pe_ix ix_list (pv 0) (pe_ix ix_tup (pv 1) pe_int (fun _ _ => rfl)) (fun _ _ => rfl))))
      (pss_one (ps_ret (pe_op op_fdiv (pe_op op_mul (pv 2) (pv 2)) pe_int)))), ?_⟩
    refine ⟨.ref a, rfl, .ref e, rfl, a, e, ns, p, rfl, hL, ok, hT, hp, fun H1 s1 => ?_⟩
    obtain ⟨i, j, ep, hij, hj, hg⟩ := mem_evs.mp hp
    subst ep
    have hT1 := s1 _ _ hT
    have hS := (hL.mono s1).sq (K := K)
    have hi : i < ns.length := by omega
    have a1 := ok.getD hi
    have a2 := ok.getD hj
    refine ⟨.ref a, rfl, .ref e, rfl, e, _, 0, .int (i : Int), rfl, rfl, SqT.of hT1, rfl, a, _, _, _, rfl, rfl, hS, atI_nat (row_get hi), .ref a, rfl, .ref e, rfl, e, _, 1, .int (j : Int), rfl, rfl, SqT.of hT1, rfl, a, _, _, _, rfl, rfl, hS, atI_nat (row_get hj), _, _, rfl, rfl, ?_⟩
    refine ⟨_, rfl, _, rfl, _, _, rfl, rfl, .inl ⟨by omega, by omega⟩, _, _, rfl, rfl, ⟨by decide, by decide⟩, ?_⟩
    exact q H1 s1
end
end EG

/-! Squares, unlike numbers, ranges with a step. -/
namespace EG
open PySem L2
theorem rgC_pos {len c : Int} (h1 : 1 ≤ c) (h2 : c ≤ 1000) (h3 : 0 ≤ len) (h4 : len ≤ 1000) : ∃ n : Nat, RgC 0 len c n ∧ ∀ i : Nat, i < n → (0 : Int) ≤ (i : Int) * c ∧ (i : Int) * c < len := by
  have e := PyProof.Rows.rangeSize_toNat 0 len c
  have l := PyProof.Rows.rangeSize_toNat_le 0 len c
  refine ⟨(Builtin.Range.rangeSize 0 len c).toNat, ⟨by omega, by omega, ?_, e⟩, fun i hi => PyProof.Rows.start_inside h1 h3 (by omega) (by omega)⟩
  unfold Builtin.Range.small
  rw [e]
  simp only [Builtin.Range.rangeFitsLong, Bool.and_eq_true, Bool.or_eq_true, decide_eq_true_eq, beq_iff_eq, show c > 0 by omega, if_true]
  omega
/-- the sum of the squares -/
def sq (ns : List Int) : Int := (ns.map fun x => x * x).sum
theorem map_getD {f : Int → Int} {ns : List Int} {i : Nat} (h : i < ns.length) : (ns.map f)[i]? = some (f (ns.getD i 0)) := by
  rw [List.getElem?_map, List.getElem?_eq_getElem h, List.getD_eq_getElem?_getD, List.getElem?_eq_getElem h]; rfl
theorem sq_beh {ns : List Int} {i j : Nat} (hi : i < ns.length) (hj : j < ns.length) (hij : i ≠ j) :
    sq (beh ns i j) = sq ns - ns.getD i 0 * ns.getD i 0 - ns.getD j 0 * ns.getD j 0 + half ns i j * half ns i j + half ns i j * half ns i j := by
  unfold sq
  rw [← beh_set, List.map_set, List.map_set]
  rw [sum_set (z := ns.getD j 0 * ns.getD j 0), sum_set (map_getD hi)]
  · omega
  · rw [List.getElem?_set_ne hij]
    exact map_getD hj
theorem sum_beh {ns : List Int} {i j : Nat} (hi : i < ns.length) (hj : j < ns.length) (hij : i ≠ j) (h2 : (ns.getD i 0 + ns.getD j 0) % 2 = 0) : (beh ns i j).sum = ns.sum := by
  have g : ∀ k, k < ns.length → ns[k]? = some (ns.getD k 0) := fun k h => by rw [List.getElem?_eq_getElem h, List.getD_eq_getElem?_getD, List.getElem?_eq_getElem h]; rfl
  rw [← beh_set, sum_set (z := ns.getD j 0), sum_set (g i hi)]
  · unfold half; omega
  · rw [List.getElem?_set_ne hij]
    exact g j hj
theorem goodP_iff {ns : List Int} {i j : Nat} : goodP ns i j = true ↔ ns.getD i 0 ≠ ns.getD j 0 ∧ (ns.getD i 0 + ns.getD j 0) % 2 = 0 := by
  unfold goodP
  rw [Bool.and_eq_true, decide_eq_true_eq, Bool.not_eq_true', decide_eq_false_iff_not]
theorem sq_fall {ns : List Int} {p : Pr} (hp : p ∈ evs ns) : fallP ns p = sq ns - sq (behP ns p) ∧ 1 ≤ fallP ns p := by
  obtain ⟨i, j, rfl, hij, hj, hg⟩ := mem_evs.mp hp
  obtain ⟨h1, h2⟩ := goodP_iff.mp hg
  have e : sq (behP ns ((i : Int), (j : Int))) = _ := sq_beh (ns := ns) (i := i) (j := j) (by omega) hj (by omega)
  rw [e]
  show (ns.getD i 0 - ns.getD j 0) * (ns.getD i 0 - ns.getD j 0) / 2 = _ ∧ 1 ≤ (ns.getD i 0 - ns.getD j 0) * (ns.getD i 0 - ns.getD j 0) / 2
  obtain ⟨h, eh⟩ : ∃ h, ns.getD i 0 + ns.getD j 0 = 2 * h := ⟨(ns.getD i 0 + ns.getD j 0) / 2, by omega⟩
  have ehf : half ns i j = h := by unfold half; omega
  rw [ehf]
  generalize ns.getD i 0 = a at *
  generalize ns.getD j 0 = b at *
  have eb : b = 2 * h - a := by omega
  subst eb
  obtain ⟨d, ed⟩ : ∃ d, a = h + d := ⟨a - h, by omega⟩
  subst ed
  have e1 : (h + d - (2 * h - (h + d))) * (h + d - (2 * h - (h + d))) = 2 * (2 * (d * d)) := by
    rw [show h + d - (2 * h - (h + d)) = 2 * d by omega, Int.mul_assoc, Int.mul_left_comm d 2 d]
  have e2 : (h + d) * (h + d) = h * h + 2 * (h * d) + d * d := by
    rw [Int.add_mul, Int.mul_add, Int.mul_add, Int.mul_comm d h]; omega
  have e3 : (2 * h - (h + d)) * (2 * h - (h + d)) = h * h - 2 * (h * d) + d * d := by
    rw [show 2 * h - (h + d) = h - d by omega, Int.sub_mul, Int.mul_sub, Int.mul_sub, Int.mul_comm d h]; omega
  have d0 : d ≠ 0 := by
    intro z; subst z; omega
  have dp : 0 < d * d := by
    rcases Int.lt_or_gt_of_ne d0 with z | z
    · exact Int.mul_pos_of_neg_of_neg z z
    · exact Int.mul_pos z z
  rw [e1, e2, e3]
  omega
theorem RowOk.beh {ns : List Int} {m g : Int} (h : RowOk ns m g) {p : Pr} (hp : p ∈ evs ns) : RowOk (behP ns p) m g := by
  obtain ⟨i, j, rfl, hij, hj, hg⟩ := mem_evs.mp hp
  have a1 := h.getD (i := i) (by omega)
  have a2 := h.getD hj
  refine ⟨by show 1 ≤ (EG.beh ns i j).length; rw [beh_length]; exact h.1, by show ((EG.beh ns i j).length : Int) ≤ m; rw [beh_length]; exact h.2.1, fun x hx => ?_⟩
  obtain ⟨k, hk⟩ := List.mem_iff_getElem?.mp (show x ∈ EG.beh ns i j from hx)
  have hkl : k < ns.length := by
    have := (List.getElem?_eq_some_iff.mp hk).1
    rw [beh_length] at this
    exact this
  rw [beh_get ns i j k hkl] at hk
  have e := Option.some.inj hk
  have a3 := h.getD hkl
  split at e
  · unfold half at e; omega
  · omega
/-! ### unlike numbers -/
theorem firstMet_map {val : Nat → Int} {f : Int → Int} {n : Nat} (h : ∀ i j, i < n → j < n → f (val i) = f (val j) → val i = val j) :
    ∀ i, i ≤ n → PyProof.Rows.firstMet (fun k => f (val k)) i = (PyProof.Rows.firstMet val i).map f
  | 0, _ => rfl
  | i + 1, hi => by
    have ih := firstMet_map h i (by omega)
    rw [PyProof.Rows.firstMet_succ, PyProof.Rows.firstMet_succ, ih]
    have e : ((PyProof.Rows.firstMet val i).map f).any (· == f (val i)) = (PyProof.Rows.firstMet val i).any (· == val i) := by
      rw [← ih, PyProof.Rows.firstMet_any, PyProof.Rows.firstMet_any]
      rw [Bool.eq_iff_iff, List.any_eq_true, List.any_eq_true]
      constructor
      · rintro ⟨x, hx, e⟩
        obtain ⟨k, hk, rfl⟩ := List.mem_map.mp hx
        have hk2 := List.mem_range.mp hk
        exact ⟨val k, List.mem_map.mpr ⟨k, hk, rfl⟩, beq_iff_eq.mpr (h k i (by omega) (by omega) (eq_of_beq e))⟩
      · rintro ⟨x, hx, e⟩
        obtain ⟨k, hk, rfl⟩ := List.mem_map.mp hx
        exact ⟨f (val k), List.mem_map.mpr ⟨k, hk, rfl⟩, beq_iff_eq.mpr (by rw [eq_of_beq e])⟩
    unfold PyProof.Rows.step_dedup
    rw [e]
    split
    · rfl
    · rw [List.map_append]; rfl
theorem dcount_rest {ns : List Int} (h : evs ns = []) : dcount (ns.map (· % 2)) = dcount ns := by
  have no : ∀ i j, i < j → j < ns.length → goodP ns i j = true → False := fun i j h1 h2 h3 => by
    have : ((i : Int), (j : Int)) ∈ evs ns := mem_evs.mpr ⟨i, j, rfl, h1, h2, h3⟩
    rw [h] at this
    cases this
  have inj : ∀ i j, i < ns.length → j < ns.length → (ns.getD i 0) % 2 = (ns.getD j 0) % 2 → ns.getD i 0 = ns.getD j 0 := fun i j hi hj e => by
    by_cases c : ns.getD i 0 = ns.getD j 0
    · exact c
    · rcases Nat.lt_trichotomy i j with l | l | l
      · exact (no i j l hj (goodP_iff.mpr ⟨c, by omega⟩)).elim
      · rw [l]
      · exact (no j i l hi (goodP_iff.mpr ⟨fun z => c z.symm, by omega⟩)).elim
  unfold dcount
  have e1 : (fun i => (ns.map (· % 2)).getD i 0) = fun i => (fun x : Int => x % 2) (ns.getD i 0) := by
    funext i
    rw [List.getD_eq_getElem?_getD, List.getD_eq_getElem?_getD, List.getElem?_map]
    cases ns[i]? <;> rfl
  rw [e1, List.length_map, firstMet_map (f := fun x => x % 2) (val := fun i => ns.getD i 0) inj ns.length (Nat.le_refl _), List.length_map]
/-! ### the row turned about -/
theorem rev_get {ns : List Int} {i : Nat} (h : i < ns.length) : ns.reverse.getD i 0 = ns.getD (ns.length - 1 - i) 0 := by
  rw [List.getD_eq_getElem?_getD, List.getD_eq_getElem?_getD, List.getElem?_reverse h]
theorem evs_rev_nil {ns : List Int} (h : evs ns = []) : evs ns.reverse = [] := by
  rw [List.eq_nil_iff_forall_not_mem]
  intro p hp
  obtain ⟨i, j, rfl, hij, hj, hg⟩ := mem_evs.mp hp
  rw [List.length_reverse] at hj
  obtain ⟨h1, h2⟩ := goodP_iff.mp hg
  rw [rev_get (by omega), rev_get (by omega)] at h1 h2
  have : (((ns.length - 1 - j : Nat) : Int), ((ns.length - 1 - i : Nat) : Int)) ∈ evs ns := mem_evs.mpr ⟨_, _, rfl, by omega, by omega, goodP_iff.mpr ⟨fun z => h1 z.symm, by omega⟩⟩
  rw [h] at this
  cases this
theorem evs_rev_iff {ns : List Int} : evs ns.reverse = [] ↔ evs ns = [] :=
  ⟨fun h => by have := evs_rev_nil h; rwa [List.reverse_reverse] at this, evs_rev_nil⟩
theorem RowOk.rev {ns : List Int} {m g : Int} (h : RowOk ns m g) : RowOk ns.reverse m g :=
  ⟨by rw [List.length_reverse]; exact h.1, by rw [List.length_reverse]; exact h.2.1, fun x hx => h.2.2 x (List.mem_reverse.mp hx)⟩
end EG

/-! The law's own small functions, common to the laws. -/
namespace EG
open PySem L2
theorem at_in {xs : List V} {i : Int} (h0 : 0 ≤ i) (h1 : i < xs.length) : ∃ v, atI xs i = some v ∧ v ∈ xs := by
  have hl : i.toNat < xs.length := by omega
  exact ⟨xs[i.toNat], at_of (j := i.toNat) (by omega) (List.getElem?_eq_getElem hl), List.getElem_mem hl⟩
abbrev bits (i : Int) : Nat := Builtin.Int.intBits i
section
variable {P : Program} {w : World} {K : PySem.W.Frag} {mg : Str → Option Value} {base : Heap}
/-! ### a cell of the script -/
def sp_cell_at (K : PySem.W.Frag) : Sp := fun vs H Q _ => ∃ (a : Addr) (ns : List Int) (k : Int), vs = [.ref a, .int k] ∧ SqL K H a (ns.map V.int) ∧ 0 ≤ k ∧ ∀ z : Int, (z = 0 ∨ z ∈ ns) → Q (.int z) H
theorem ok_cell_at {f : Addr} {fd : FuncData} (F : Fun K "_law_cell_at" "_law_cell_at" s_l_cell_at f fd) (B : Blt mg) : FnOk P w K mg base CX0 1 f fd ["_law_script", "_law_k"] (sp_cell_at K) := by
  refine F.ok sc_l_cell_at (fun vs H Q E h => ?_) (fun cdv A outer s H vs Q E hr h => ?_)
  · obtain ⟨a, ns, k, rfl, _⟩ := h
    rfl
  · obtain ⟨a, ns, k, rfl, hS, h0, q⟩ := h
    refine ⟨_, pss_cons (ps_if (pt_cmpR op_lt (pv 1) (pe_callB call_len_seq (by rfl) B.len PySem.boot_len (pa_cons (pv 0) pa_nil)) (nomark _)) (pss_one (ps_ret (pe_ix ix_list (pv 0) (pv 1) (fun _ _ => rfl)))) pss_nil)
      (pss_one (ps_ret pe_int)), ?_⟩
    refine ⟨.int k, rfl, .ref a, rfl, a, _, rfl, .inl hS, _, _, rfl, rfl, _, rfl, ite2 (fun c => ?_) (fun _ => q 0 (.inl rfl))⟩
    have c1 : k < ((ns.map V.int).length : Int) := of_decide_eq_true c
    obtain ⟨v, e, hv⟩ := at_in h0 c1
    obtain ⟨z, hz, rfl⟩ := List.mem_map.mp hv
    exact ⟨.ref a, rfl, .int k, rfl, a, _, _, _, rfl, rfl, hS, e, q z (.inr hz)⟩
/-! ### a draw -/
def primes : List Int := [1000003, 1000033, 1000037, 1000039, 1000081, 1000099, 1000117, 1000121, 1000133, 1000151, 1000159, 1000171, 1000183, 1000187, 1000193, 1000199]
def sp_draw : Sp := fun vs H Q _ => ∃ c k m : Int, vs = [.int c, .int k, .int m] ∧ 0 < m ∧ ∀ H' z, Same H H' → Q (.int z) H'
theorem ok_draw {f : Addr} {fd : FuncData} (F : Fun K "_law_draw" "_law_draw" s_l_draw f fd) : FnOk P w K mg base CX0 1 f fd ["_law_cell", "_law_k", "_law_many"] sp_draw := by
  refine F.ok sc_l_draw (fun vs H Q E h => ?_) (fun cdv A outer s H vs Q E hr h => ?_)
  · obtain ⟨c, k, m, rfl, _⟩ := h
    rfl
  · obtain ⟨c, k, m, rfl, hm, q⟩ := h
    refine ⟨_, pss_cons (ps_set (i := 3) sc_l_draw.nd rfl (.inl rfl) (pe_tup (pa_cons pe_int (pa_cons pe_int (pa_cons pe_int (pa_cons pe_int (pa_cons pe_int (pa_cons pe_int (pa_cons pe_int (pa_cons pe_int
        (pa_cons pe_int (pa_cons pe_int (pa_cons pe_int (pa_cons pe_int (pa_cons pe_int (pa_cons pe_int (pa_cons pe_int (pa_cons pe_int pa_nil))))))))))))))))))
      (pss_one (ps_ret (pe_op op_mod (pe_op op_mod (pe_op op_add (pe_op op_mul (pv 0) pe_int) (pe_op op_mul (pv 1) pe_int)) (pe_ix ix_tup (pv 3) (pe_op op_mod (pv 1) pe_int) (fun _ _ => rfl))) (pv 2)))), ?_⟩
    refine ⟨(by show 16 ≤ sizeLine; decide), fun t ht => ?_⟩
    have hT : (upd H t (.tup (primes.map V.int))) t = some (.tup (primes.map V.int)) := upd_same
    refine ⟨.int c, rfl, _, _, rfl, rfl, .inr ⟨by decide, by decide⟩, .int k, rfl, _, _, rfl, rfl, .inr ⟨by decide, by decide⟩, _, _, rfl, rfl, ?_⟩
    have h16 : (0 : Int) ≤ k % 16 ∧ k % 16 < 16 := by omega
    obtain ⟨v, e, hv⟩ := at_in (xs := primes.map V.int) (i := k % 16) h16.1 h16.2
    obtain ⟨z, hz, rfl⟩ := List.mem_map.mp hv
    have hz0 : (0 : Int) < z := by
      revert hz
      revert z
      intro z _ _ hz
      have : ∀ y ∈ primes, (0 : Int) < y := by decide
      exact this z hz
    refine ⟨.ref t, rfl, .int k, rfl, _, _, rfl, rfl, (by show (0 : Int) < 16; decide), t, _, _, _, rfl, rfl, SqT.of hT, e, _, _, rfl, rfl, hz0, .int m, rfl, _, _, rfl, rfl, hm, ?_⟩
    exact q _ _ (same_new ht)
/-! ### a value -/
def sp_value : Sp := fun vs H Q _ => ∃ c k : Int, vs = [.int c, .int k] ∧ bits c ≤ 1048600 ∧ 0 ≤ k ∧ k ≤ 1000 ∧ ∀ H' z, Same H H' → Q (.int z) H'
theorem bits_small {z : Int} (h : z.natAbs < 2 ^ 64) : bits z ≤ 64 := intBits_le_iff.mpr h
theorem bits_add {c z : Int} {m : Nat} (hc : bits c ≤ m) (hz : z.natAbs < 2 ^ 64) (hm : 64 ≤ m) : bits (c + z) ≤ m + 1 := by
  have h := intBits_add_le hc (bits_small hz)
  rw [Nat.max_eq_left hm] at h
  exact h
theorem ok_value {f : Addr} {fd : FuncData} (F : Fun K "_law_value" "_law_value" s_l_value f fd) (cD : Cal CX0 P w K mg base "_law_draw" ["_law_cell", "_law_k", "_law_many"] 1 sp_draw) : FnOk P w K mg base CX0 2 f fd ["_law_cell", "_law_turn"] sp_value := by
  refine F.ok sc_l_value (fun vs H Q E h => ?_) (fun cdv A outer s H vs Q E hr h => ?_)
  · obtain ⟨c, k, rfl, _⟩ := h
    rfl
  · obtain ⟨c, k, rfl, hb, h0, h1, q⟩ := h
    refine ⟨_, pss_cons (ps_if (pt_cmpR op_ge (pv 0) (pe_op op_pow pe_int pe_int) (nomark _)) (pss_one (ps_ret (pe_op op_shr (pe_op op_sub (pv 0) (pe_op op_pow pe_int pe_int)) (pe_op op_mul pe_int (pv 1))))) pss_nil)
      (pss_cons (ps_set (i := 2) sc_l_value.nd rfl (.inl rfl) (pe_cal cD hr (by rfl) (pa_cons (pe_op op_mulB (pe_op op_add (pv 0) (pe_op op_mul pe_int (pv 1))) (pe_op op_add (pe_op op_add (pv 0) (pe_op op_mul pe_int (pv 1))) pe_int))
          (pa_cons (pe_op op_add (pe_op op_mod (pv 1) pe_int) pe_int) (pa_cons pe_int pa_nil)))))
      (pss_one (ps_ret (pe_op op_add (pe_op op_mul (pv 2) pe_int) (pe_cal cD hr (by rfl) (pa_cons (pe_op op_add (pe_op op_mulB (pe_op op_add (pv 0) (pe_op op_mul pe_int (pv 1))) (pe_op op_add (pv 0) pe_int)) (pe_op op_mul pe_int (pv 1)))
          (pa_cons (pe_op op_add (pe_op op_mod (pv 1) pe_int) pe_int) (pa_cons pe_int pa_nil)))))))), ?_⟩
    have pw : CPow 10 18 := ⟨by decide, by decide, by decide⟩
    refine ⟨.int c, rfl, _, _, rfl, rfl, pw, _, _, rfl, rfl, _, rfl, ite2 (fun _ => ?_) (fun _ => ?_)⟩
    · refine ⟨.int c, rfl, _, _, rfl, rfl, pw, _, _, rfl, rfl, .int k, rfl, _, _, rfl, rfl, .inl ⟨by decide, by decide⟩, _, _, rfl, rfl, by omega, ?_⟩
      exact q _ _ (Same.refl _)
    · have b1 : bits (c + 977 * k) ≤ 1048601 := bits_add hb (by omega) (by decide)
      have b2 : bits (c + 31 * k) ≤ 1048601 := bits_add hb (by omega) (by decide)
      have b3 : bits (c + 31 * k + 5) ≤ 1048602 := bits_add b2 (by decide) (by decide)
      have b4 : bits (c + 7) ≤ 1048601 := bits_add hb (by decide) (by decide)
      refine ⟨.int c, rfl, .int k, rfl, _, _, rfl, rfl, .inl ⟨by decide, by decide⟩, _, _, rfl, rfl, .int c, rfl, .int k, rfl, _, _, rfl, rfl, .inl ⟨by decide, by decide⟩, _, _, rfl, rfl, _, _, rfl, rfl, _, _, rfl, rfl, IntMulOk.of_le b1 b3 (by decide), ?_⟩
      refine ⟨.int k, rfl, _, _, rfl, rfl, (by show (0 : Int) < 9; decide), _, _, rfl, rfl, _, _, _, rfl, by decide, fun H1 z1 s1 => ?_⟩
      refine ⟨.int z1, rfl, _, _, rfl, rfl, .inr ⟨by decide, by decide⟩, ?_⟩
      refine ⟨.int c, rfl, .int k, rfl, _, _, rfl, rfl, .inl ⟨by decide, by decide⟩, _, _, rfl, rfl, .int c, rfl, _, _, rfl, rfl, _, _, rfl, rfl, IntMulOk.of_le b2 b4 (by decide), .int k, rfl, _, _, rfl, rfl, .inl ⟨by decide, by decide⟩, _, _, rfl, rfl, ?_⟩
      refine ⟨.int k, rfl, _, _, rfl, rfl, (by show (0 : Int) < 7; decide), _, _, rfl, rfl, _, _, _, rfl, by decide, fun H2 z2 s2 => ?_⟩
      exact ⟨_, _, rfl, rfl, q _ _ (s1.trans s2)⟩
end
end EG

/-! A drawn row; the law's own evenings and evening. -/
namespace EG
open PySem L2
section
variable {P : Program} {w : World} {K : PySem.W.Frag} {mg : Str → Option Value} {base : Heap}
def sp_row (K : PySem.W.Frag) : Sp := fun vs H Q _ => ∃ (a : Addr) (ns : List Int) (b m g : Int), vs = [.ref a, .int b, .int m, .int g] ∧ SqL K H a (ns.map V.int) ∧ (∀ z ∈ ns, bits z ≤ 1048576) ∧ 0 ≤ b ∧ b ≤ 1000 ∧ 0 < m ∧ m ≤ 12 ∧ 3 ≤ g ∧ g ≤ 1000000 ∧
  ∀ H' p ms, Same H H' → H p = none → Lst H' p ms → RowOk ms m g → Q (.ref p) H'
theorem ok_row {f : Addr} {fd : FuncData} (F : Fun K "_law_row" "_law_row" s_l_row f fd) (B : Blt mg) (cC : Cal CX0 P w K mg base "_law_cell_at" ["_law_script", "_law_k"] 1 (sp_cell_at K))
    (cV : Cal CX0 P w K mg base "_law_value" ["_law_cell", "_law_turn"] 2 sp_value) : FnOk P w K mg base CX0 3 f fd ["_law_script", "_law_by", "_law_most", "_law_greatest"] (sp_row K) := by
  refine F.ok sc_l_row (fun vs H Q E h => ?_) (fun cdv A outer s H vs Q E hr h => ?_)
  · obtain ⟨a, ns, b, m, g, rfl, _⟩ := h
    rfl
  · obtain ⟨a, ns, b, m, g, rfl, hS, hb, b0, b1, m0, m1, g0, g1, q⟩ := h
    refine ⟨_, pss_cons (ps_set (i := 4) sc_l_row.nd rfl (.inl rfl) (pe_cal cC hr (by rfl) (pa_cons (pv 0) (pa_cons (pv 1) pa_nil))))
      (pss_cons (ps_par (i := 5) (j := 6) rfl sc_l_row.nd rfl rfl (by decide) rfl rfl (pa_cons
          (pe_ix ix_tup (pe_tup (pa_cons (pv 3) (pa_cons pe_int (pa_cons (pe_op op_fdiv (pv 3) pe_int) (pa_cons pe_int pa_nil))))) (pe_op op_mod (pe_cal cV hr (by rfl) (pa_cons (pv 4) (pa_cons pe_int pa_nil))) pe_int) (fun _ _ => rfl)) (pa_cons
          (pe_ix ix_tup (pe_tup (pa_cons pe_int (pa_cons pe_int (pa_cons pe_int (pa_cons pe_int pa_nil))))) (pe_op op_mod (pe_cal cV hr (by rfl) (pa_cons (pv 4) (pa_cons pe_int pa_nil))) pe_int) (fun _ _ => rfl)) pa_nil)) (by rfl))
      (pss_cons (ps_set (i := 7) sc_l_row.nd rfl (.inl rfl) (pe_lst pa_nil))
      (pss_cons (ps_for PassesOwn.never rfl (pi_range1 (by rfl) B.range (pa_cons (pe_op op_add pe_int (pe_op op_mod (pe_cal cV hr (by rfl) (pa_cons (pv 4) (pa_cons pe_int pa_nil))) (pv 2))) pa_nil)) (pg_name (i := 8) sc_l_row.nd rfl (.inl rfl))
        (pss_cons (ps_set (i := 9) sc_l_row.nd rfl (.inl rfl) (pe_op op_fdiv (pe_cal cV hr (by rfl) (pa_cons (pe_op op_add (pe_cal cC hr (by rfl) (pa_cons (pv 0) (pa_cons (pe_op op_add (pv 1) (pe_op op_mod (pv 8) pe_int)) pa_nil))) (pe_op op_mul pe_int (pv 8)))
            (pa_cons (pe_op op_add pe_int (pe_op op_mod (pv 8) pe_int)) pa_nil))) pe_int))
        (pss_one (ps_expr (pe_bm PySem.F.plainAttrs_list PySem.F.slot_list_append PySem.F.type_list_append mt_append (pv 7) (pa_cons (pe_callB (call_min2 rfl) (by rfl) B.min PyProof.Rows.boot_min (pa_cons (pv 3) (pa_cons
            (pe_op op_mul (pe_op op_mod (pv 9) (pe_op op_add (pv 5) pe_int)) (pv 6)) pa_nil))) pa_nil))))))
      (pss_one (ps_ret (pv 7)))))), ?_⟩
    -- the cell
    have cellB : ∀ z : Int, (z = 0 ∨ z ∈ ns) → bits z ≤ 1048576 := fun z hz => by
      rcases hz with rfl | hz
      · decide
      · exact hb z hz
    refine ⟨.ref a, rfl, .int b, rfl, a, ns, b, rfl, hS, b0, fun c hc => ?_⟩
    have bc := cellB c hc
    -- wide, step
    refine ⟨.int g, rfl, .int g, rfl, _, _, rfl, rfl, ⟨by decide, by decide⟩, (by show 4 ≤ sizeLine; decide), fun t ht => ?_⟩
    have s1 : Same H (upd H t (.tup [.int g, .int 3, .int (g / 2), .int 1])) := same_new ht
    refine ⟨.int c, rfl, c, 1, rfl, by omega, by decide, by decide, fun H2 z s2 => ?_⟩
    obtain ⟨v, e, hv⟩ := at_in (xs := [.int g, .int 3, .int (g / 2), .int 1]) (i := z % 4) (by omega) (by show z % 4 < 4; omega)
    obtain ⟨wide, rfl, hw⟩ : ∃ y : Int, v = .int y ∧ 0 ≤ y := by
      simp only [List.mem_cons, List.not_mem_nil, or_false] at hv
      rcases hv with rfl | rfl | rfl | rfl
      · exact ⟨_, rfl, by omega⟩
      · exact ⟨_, rfl, by omega⟩
      · exact ⟨_, rfl, by omega⟩
      · exact ⟨_, rfl, by omega⟩
    refine ⟨_, _, rfl, rfl, (by show (0 : Int) < 4; decide), t, _, _, _, rfl, rfl, SqT.of (s2 _ _ upd_same), e, ?_⟩
    refine ⟨(by show 4 ≤ sizeLine; decide), fun t2 ht2 => ?_⟩
    have s3 : Same H2 (upd H2 t2 (.tup [.int 1, .int 1, .int 2, .int 4])) := same_new ht2
    refine ⟨.int c, rfl, c, 1, rfl, by omega, by decide, by decide, fun H3 z3 s4 => ?_⟩
    obtain ⟨v, e, hv⟩ := at_in (xs := [.int 1, .int 1, .int 2, .int 4]) (i := z3 % 4) (by omega) (by show z3 % 4 < 4; omega)
    obtain ⟨stp, rfl, hs0, hs1⟩ : ∃ y : Int, v = .int y ∧ 0 ≤ y ∧ y ≤ 4 := by
      simp only [List.mem_cons, List.not_mem_nil, or_false] at hv
      rcases hv with rfl | rfl | rfl | rfl
      · exact ⟨_, rfl, by omega, by omega⟩
      · exact ⟨_, rfl, by omega, by omega⟩
      · exact ⟨_, rfl, by omega, by omega⟩
      · exact ⟨_, rfl, by omega, by omega⟩
    refine ⟨_, _, rfl, rfl, (by show (0 : Int) < 4; decide), t2, _, _, _, rfl, rfl, SqT.of (s4 _ _ upd_same), e, ?_⟩
    have s5 : Same H H3 := ((s1.trans s2).trans s3).trans s4
    refine ⟨_, _, rfl, Nat.zero_le _, fun o ho => ?_⟩
    have s6 : Same H (upd H3 o (.lst [])) := s5.trans (same_new ho)
    have hoH : H o = none := s5.free ho
    -- the loop
    refine ⟨.int c, rfl, c, 2, rfl, by omega, by decide, by decide, fun H4 z4 s7 => ?_⟩
    refine ⟨.int m, rfl, _, _, rfl, rfl, m0, _, _, rfl, rfl, ?_⟩
    have em0 : 0 ≤ z4 % m := Int.emod_nonneg _ (by omega)
    have em1 : z4 % m < m := Int.emod_lt_of_pos _ m0
    refine ⟨_, rfl, by omega, by omega, for_range
      (fun i σ H' => ∃ y8 y9 ms, σ = [some (.ref a), some (.int b), some (.int m), some (.int g), some (.int c), some (.int wide), some (.int stp), some (.ref o), y8, y9] ∧ Same H H' ∧ Lst H' o ms ∧ ms.length = i ∧ ∀ x ∈ ms, 0 ≤ x ∧ x ≤ g)
      ⟨none, none, [], rfl, s6.trans s7, s7 _ _ upd_same, rfl, by simp⟩ (fun i σ H5 hi h => ?_) (fun σ H5 h => ?_)⟩
    · obtain ⟨y8, y9, ms, rfl, s8, hL, hlen, hms⟩ := h
      have hi12 : i < 12 := by omega
      refine ⟨.ref a, rfl, .int b, rfl, .int (0 + (i : Int)), rfl, _, _, rfl, rfl, (by show (0 : Int) < 5; decide), _, _, rfl, rfl, a, ns, _, rfl, s8.seq hS, by omega, fun c5 hc5 => ?_⟩
      have bc5 := cellB c5 hc5
      refine ⟨.int (0 + (i : Int)), rfl, _, _, rfl, rfl, .inl ⟨by decide, by decide⟩, _, _, rfl, rfl, .int (0 + (i : Int)), rfl, _, _, rfl, rfl, (by show (0 : Int) < 6; decide), _, _, rfl, rfl, ?_⟩
      refine ⟨_, _, rfl, Nat.le_trans (bits_add bc5 (by omega) (by decide)) (by decide), by omega, by omega, fun H6 z6 s9 => ?_⟩
      refine ⟨_, _, rfl, rfl, ⟨by decide, by decide⟩, ?_⟩
      have hL6 := hL.mono s9
      refine ⟨.ref o, rfl, .inl ⟨rfl, _, SqL.of hL6⟩, .int g, rfl, _, rfl, .int wide, rfl, _, _, rfl, rfl, _, _, rfl, rfl, (by show (0 : Int) < wide + 1; omega), .int stp, rfl, _, _, rfl, rfl, .inr ⟨by omega, by omega⟩, _, _, rfl, ?_⟩
      have en : ∃ y : Int, (if z6 / 3 % (wide + 1) * stp < g then z6 / 3 % (wide + 1) * stp else g) = y ∧ 0 ≤ y ∧ y ≤ g := by
        have p0 : 0 ≤ z6 / 3 % (wide + 1) * stp := Int.mul_nonneg (Int.emod_nonneg _ (by omega)) hs0
        refine ⟨_, rfl, ?_, ?_⟩
        · split <;> omega
        · split <;> omega
      obtain ⟨y, ey, y0, y1⟩ := en
      rw [ey]
      refine ⟨o, _, _, rfl, rfl, hL6, small1000 (by rw [List.length_map]; omega), ?_⟩
      refine ⟨_, _, ms ++ [y], rfl, fun b' x e => ?_, ?_, by rw [List.length_append, hlen]; rfl, fun x hx => ?_⟩
      · rw [upd_ne (ne_of_none e hoH)]
        exact s9 _ _ (s8 _ _ e)
      · show upd H6 o (.lst (ms.map V.int ++ [.int y])) o = some (.lst ((ms ++ [y]).map V.int))
        rw [upd_same, List.map_append]
        rfl
      · rcases List.mem_append.mp hx with hx | hx
        · exact hms x hx
        · rw [List.mem_singleton.mp hx]
          exact ⟨y0, y1⟩
    · obtain ⟨y8, y9, ms, rfl, s8, hL, hlen, hms⟩ := h
      exact ⟨.ref o, rfl, q H5 o ms s8 hoH hL ⟨by omega, by omega, hms⟩⟩
/-! ### the evenings, otherwise -/
open Classical in
noncomputable def kOf (H : Hp) (x : V) : Pr := if h : ∃ p, IsP H x p then h.choose else (0, 0)
theorem IsP.inj {H : Hp} {x : V} {p q : Pr} (h : IsP H x p) (h' : IsP H x q) : p = q := by
  obtain ⟨t, rfl, e⟩ := h
  obtain ⟨t', e2, e3⟩ := h'
  cases e2
  rw [e] at e3
  have e4 := HO.tup.inj (Option.some.inj e3)
  have e5 := V.int.inj (List.cons.inj e4).1
  have e6 := V.int.inj (List.cons.inj (List.cons.inj e4).2).1
  exact Prod.ext e5 e6
theorem kOf_eq {H : Hp} {x : V} {p : Pr} (h : IsP H x p) : kOf H x = p := by
  unfold kOf
  rw [dif_pos ⟨p, h⟩]
  exact IsP.inj (Exists.choose_spec (⟨p, h⟩ : ∃ p, IsP H x p)) h
theorem prs_kOf {H : Hp} : ∀ {vs : List V} {ps : List Pr}, Prs H vs ps → vs.map (kOf H) = ps
  | _, _, .nil => rfl
  | _, _, .cons r t => by rw [List.map_cons, kOf_eq r, prs_kOf t]
theorem prs_of {H : Hp} : ∀ {vs : List V}, (∀ v ∈ vs, ∃ p, IsP H v p) → Prs H vs (vs.map (kOf H))
  | [], _ => .nil
  | v :: vs, h => by
    obtain ⟨p, hp⟩ := h v List.mem_cons_self
    refine .cons ?_ (prs_of fun u hu => h u (List.mem_cons_of_mem _ hu))
    rw [kOf_eq hp]
    exact hp
theorem cnO_len (ns : List Int) (j k : Nat) : (cnO ns j k).length ≤ k := by
  unfold cnO
  rw [List.length_map]
  exact Nat.le_trans (List.length_filter_le _ _) (by rw [List.length_range]; exact Nat.le_refl _)
theorem cnN_len (ns : List Int) : ∀ m, (cnN ns m).length ≤ m * m
  | 0 => Nat.zero_le _
  | m + 1 => by
    have ih := cnN_len ns m
    have h := cnO_len ns m m
    rw [cnN_succ, List.length_append, Nat.succ_mul, Nat.mul_succ]
    omega
def sp_can (K : PySem.W.Frag) : Sp := fun vs H Q _ => ∃ (a : Addr) (ns : List Int), vs = [.ref a] ∧ SqL K H a (ns.map V.int) ∧ ns.length ≤ 12 ∧
  ∀ H' p ws, Same H H' → H p = none → H' p = some (.lst ws) → Prs H' ws (evs ns) → Q (.ref p) H'
theorem ok_can {f : Addr} {fd : FuncData} (F : Fun K "_law_can" "_law_can" s_l_can f fd) (B : Blt mg) : FnOk P w K mg base CX0 1 f fd ["_law_row_here"] (sp_can K) := by
  refine F.ok sc_l_can (fun vs H Q E h => ?_) (fun cdv A outer s H vs Q E hr h => ?_)
  · obtain ⟨a, ns, rfl, _⟩ := h
    rfl
  · obtain ⟨a, ns, rfl, hS, hl, q⟩ := h
    refine ⟨_, pss_cons (ps_set (i := 1) sc_l_can.nd rfl (.inl rfl) (pe_lst pa_nil))
      (pss_cons (ps_for PassesOwn.never rfl (pi_range1 (by rfl) B.range (pa_cons (pe_callB call_len_seq (by rfl) B.len PySem.boot_len (pa_cons (pv 0) pa_nil)) pa_nil)) (pg_name (i := 2) sc_l_can.nd rfl (.inl rfl))
        (pss_one (ps_for PassesOwn.never rfl (pi_range1 (by rfl) B.range (pa_cons (pv 2) pa_nil)) (pg_name (i := 3) sc_l_can.nd rfl (.inl rfl))
          (pss_one (ps_if (PW.pt (pw_and (pt_cmpR op_ne (pe_ix ix_list (pv 0) (pv 3) (fun _ _ => rfl)) (pe_ix ix_list (pv 0) (pv 2) (fun _ _ => rfl)) (nomark _))
              (pw_and1 (pt_cmpR op_eq (pe_op op_mod (pe_ix ix_list (pv 0) (pv 3) (fun _ _ => rfl)) pe_int) (pe_op op_mod (pe_ix ix_list (pv 0) (pv 2) (fun _ _ => rfl)) pe_int) (nomark _)))))
            (pss_one (ps_expr (pe_bm PySem.F.plainAttrs_list PySem.F.slot_list_append PySem.F.type_list_append mt_append (pv 1) (pa_cons (pe_tup (pa_cons (pv 3) (pa_cons (pv 2) pa_nil))) pa_nil))))
            pss_nil)))))
      (pss_one (ps_ret (pe_callB cr_sortedPO (by rfl) B.sorted PyProof.Rows.boot_sorted (pa_cons (pv 1) pa_nil))))), ?_⟩
    refine ⟨Nat.zero_le _, fun o ho => ?_⟩
    have s0 : Same H (upd H o (.lst [])) := same_new ho
    have en : (((ns.map V.int).length : Int)).toNat = ns.length := by rw [List.length_map]; omega
    refine ⟨.ref a, rfl, a, _, rfl, .inl (s0.seq hS), _, rfl, by rw [List.length_map]; omega, by rw [List.length_map]; omega, for_range
      (fun j σ H' => ∃ y2 y3 ws, σ = [some (.ref a), some (.ref o), y2, y3] ∧ Same H H' ∧ H' o = some (.lst ws) ∧ Prs H' ws (cnN ns j))
      ⟨none, none, [], rfl, s0, upd_same, .nil⟩ (fun j σ H1 hj h => ?_) (fun σ H1 h => ?_)⟩
    · obtain ⟨y2, y3, ws, rfl, s1, h1, r1⟩ := h
      rw [en] at hj
      have ej : (0 + (j : Int)).toNat = j := by omega
      refine ⟨.int (0 + (j : Int)), rfl, _, rfl, by omega, by omega, for_range
        (fun i σ H' => ∃ y3 ws, σ = [some (.ref a), some (.ref o), some (.int (0 + (j : Int))), y3] ∧ Same H H' ∧ H' o = some (.lst ws) ∧ Prs H' ws (cnN ns j ++ cnO ns j i))
        ⟨y3, ws, rfl, s1, h1, by simpa [cnO] using r1⟩ (fun i σ H2 hi h => ?_) (fun σ H2 h => ?_)⟩
      · obtain ⟨y4, ws, rfl, s2, h2, r2⟩ := h
        rw [ej] at hi
        have hA := s2.seq hS
        have hin : i < ns.length := by omega
        have g1 : atI (ns.map V.int) (0 + (i : Int)) = some (.int (ns.getD i 0)) := at_of (by omega) (row_get hin)
        have g2 : atI (ns.map V.int) (0 + (j : Int)) = some (.int (ns.getD j 0)) := at_of (by omega) (row_get hj)
        have hlen : ws.length < sizeLine := by
          rw [r2.length, List.length_append]
          have l1 := cnN_len ns j
          have l2 := cnO_len ns j i
          have l3 : j * j ≤ 12 * 12 := Nat.mul_le_mul (by omega) (by omega)
          exact small1000 (by omega)
        refine ⟨.ref a, rfl, .int (0 + (i : Int)), rfl, a, _, _, _, rfl, rfl, hA, g1, .ref a, rfl, .int (0 + (j : Int)), rfl, a, _, _, _, rfl, rfl, hA, g2, rfl, _, rfl, ?_⟩
        rw [dec_int]
        by_cases c1 : ns.getD i 0 = ns.getD j 0
        · refine itN (by rw [decide_eq_true c1]; decide) (iteF ?_)
          refine ⟨_, ws, rfl, s2, h2, ?_⟩
          rw [cnO_succ, if_neg (by unfold goodP; rw [decide_eq_true c1]; simp), List.append_nil]
          exact r2
        · refine itP (by rw [decide_eq_false c1]; rfl) ?_
          refine ⟨.ref a, rfl, .int (0 + (i : Int)), rfl, a, _, _, _, rfl, rfl, hA, g1, _, _, rfl, rfl, (by show (0 : Int) < 2; decide), .ref a, rfl, .int (0 + (j : Int)), rfl, a, _, _, _, rfl, rfl, hA, g2, _, _, rfl, rfl, (by show (0 : Int) < 2; decide), rfl, _, rfl, ?_⟩
          rw [dec_int]
          by_cases c2 : ns.getD i 0 % 2 = ns.getD j 0 % 2
          · refine itP (decide_eq_true c2) ?_
            refine ⟨.ref o, rfl, .inl ⟨rfl, _, SqL.of h2⟩, .int (0 + (i : Int)), rfl, .int (0 + (j : Int)), rfl, (by show 2 ≤ sizeLine; decide), fun t ht => ?_⟩
            have st : Same H2 (upd H2 t (.tup [.int (0 + (i : Int)), .int (0 + (j : Int))])) := same_new ht
            refine ⟨o, ws, _, rfl, rfl, st _ _ h2, hlen, ?_⟩
            have sT : TupS H2 (upd (upd H2 t (.tup [.int (0 + (i : Int)), .int (0 + (j : Int))])) o (.lst (ws ++ [.ref t]))) := (Same.tups st).trans (tups_lst (st _ _ h2))
            refine ⟨_, _, rfl, fun b x e => ?_, upd_same, ?_⟩
            · rw [upd_ne (ne_of_none e ho)]
              exact st _ _ (s2 _ _ e)
            · have c3 : (ns.getD i 0 + ns.getD j 0) % 2 = 0 := by omega
              rw [cnO_succ, if_pos (by unfold goodP; rw [decide_eq_false c1, decide_eq_true c3]; rfl), ← List.append_assoc]
              refine prs_app (r2.mono sT) (.cons ⟨t, rfl, ?_⟩ .nil)
              have nt : t ≠ o := (ne_of_none h2 ht).symm
              rw [upd_ne nt, upd_same, show (0 : Int) + (i : Int) = ((i : Nat) : Int) by omega, show (0 : Int) + (j : Int) = ((j : Nat) : Int) by omega]
          · refine itN (by rw [decide_eq_false c2]; decide) ?_
            refine ⟨_, ws, rfl, s2, h2, ?_⟩
            have c3 : ¬ (ns.getD i 0 + ns.getD j 0) % 2 = 0 := by omega
            rw [cnO_succ, if_neg (by unfold goodP; rw [decide_eq_false c3]; simp), List.append_nil]
            exact r2
      · obtain ⟨y4, ws, rfl, s2, h2, r2⟩ := h
        rw [ej] at r2
        exact ⟨_, _, ws, rfl, s2, h2, by rw [cnN_succ]; exact r2⟩
    · obtain ⟨y2, y3, ws, rfl, s1, h1, r1⟩ := h
      rw [en] at r1
      refine ⟨.ref o, rfl, o, ws, kOf H1, rfl, SqL.of h1, fun x hx => ?_, fun ys p hs hst hp => ?_⟩
      · obtain ⟨pr, _, t, ex, et⟩ := prs_mem r1 hx
        exact ⟨t, ex, by rw [kOf_eq ⟨t, ex, et⟩]; exact et⟩
      · have sN : Same H1 (upd H1 p (.lst ys)) := same_new hp
        have py : Prs H1 ys (ys.map (kOf H1)) := prs_of fun v hv => by
          obtain ⟨pr, _, hpr⟩ := prs_mem r1 (hst.perm.mem_iff.mp hv)
          exact ⟨pr, hpr⟩
        have ey : ys.map (kOf H1) = evs ns := by
          refine evs_uniq ?_ ?_
          · rw [← prs_kOf r1]
            exact hst.perm.map _
          · rw [List.pairwise_map]
            refine hs.imp fun {x y} h h2 => ?_
            have h3 : ltP (kOf H1) y x = true := SrtO.lexB_iff.mpr h2
            exact absurd (h.symm.trans h3) (by decide)
        rw [ey] at py
        exact q _ p ys (s1.trans sN) (s1.free hp) upd_same (py.mono (Same.tups sN))
/-! ### the row behind, otherwise -/
def sp_l_evened (K : PySem.W.Frag) : Sp := fun vs H Q _ => ∃ (a e : Addr) (ns : List Int) (p : Pr), vs = [.ref a, .ref e] ∧ SqL K H a (ns.map V.int) ∧ H e = some (.tup [.int p.1, .int p.2]) ∧ p ∈ evs ns ∧ ns.length ≤ 12 ∧
  ∀ H' o, Same H H' → H o = none → Lst H' o (behP ns p) → Q (.ref o) H'
theorem ok_l_evened {f : Addr} {fd : FuncData} (F : Fun K "_law_evened" "_law_evened" s_l_evened f fd) (B : Blt mg) : FnOk P w K mg base CX0 1 f fd ["_law_row_here", "_law_pair"] (sp_l_evened K) := by
  refine F.ok sc_l_evened (fun vs H Q E h => ?_) (fun cdv A outer s H vs Q E hr h => ?_)
  · obtain ⟨a, e, ns, p, rfl, _⟩ := h
    rfl
  · obtain ⟨a, e, ns, p, rfl, hS, hT, hp, hl, q⟩ := h
    refine ⟨_, pss_cons (ps_set (i := 2) sc_l_evened.nd rfl (.inl rfl) (pe_callTy call_list_of (by rfl) B.list PyProof.Rows.boot_list (pa_cons (pv 0) pa_nil)))
      (pss_cons (ps_asg (pe_op op_fdiv (pe_op op_add (pe_ix ix_list (pv 0) (pe_ix ix_tup (pv 1) pe_int (fun _ _ => rfl)) (fun _ _ => rfl)) (pe_ix ix_list (pv 0) (pe_ix ix_tup (pv 1) pe_int (fun _ _ => rfl)) (fun _ _ => rfl))) pe_int)
        (pg_sub (pv 2) (pe_ix ix_tup (pv 1) pe_int (fun _ _ => rfl)) set_list))
      (pss_cons (ps_asg (pe_ix ix_list (pv 2) (pe_ix ix_tup (pv 1) pe_int (fun _ _ => rfl)) (fun _ _ => rfl)) (pg_sub (pv 2) (pe_ix ix_tup (pv 1) pe_int (fun _ _ => rfl)) set_list))
      (pss_one (ps_ret (pv 2))))), ?_⟩
    obtain ⟨i, j, ep, hij, hj, hg⟩ := mem_evs.mp hp
    subst ep
    have hi : i < ns.length := by omega
    refine ⟨.ref a, rfl, a, _, rfl, .inl hS, fun o ho => ?_⟩
    have s1 : Same H (upd H o (.lst (ns.map V.int))) := same_new ho
    have hA := s1.seq hS
    have hT1 := s1 _ _ hT
    have no : e ≠ o := ne_of_none hT ho
    have g1 : atI (ns.map V.int) (i : Int) = some (.int (ns.getD i 0)) := atI_nat (row_get hi)
    have g2 : atI (ns.map V.int) (j : Int) = some (.int (ns.getD j 0)) := atI_nat (row_get hj)
    have ix : ∀ {xs : List V} {k : Nat}, k < xs.length → ixN xs.length (k : Int) = some k := fun {xs k} h => by
      unfold ixN
      rw [if_pos (by omega), if_pos (by omega)]; simp
    refine ⟨.ref a, rfl, .ref e, rfl, e, _, 0, .int (i : Int), rfl, rfl, SqT.of hT1, rfl, a, _, _, _, rfl, rfl, hA, g1, .ref a, rfl, .ref e, rfl, e, _, 1, .int (j : Int), rfl, rfl, SqT.of hT1, rfl, a, _, _, _, rfl, rfl, hA, g2, _, _, rfl, rfl, _, _, rfl, rfl, ⟨by decide, by decide⟩, ?_⟩
    refine ⟨.ref o, rfl, .ref e, rfl, e, _, 0, .int (i : Int), rfl, rfl, SqT.of hT1, rfl, o, _, _, i, rfl, rfl, upd_same, ix (by rw [List.length_map]; exact hi), ?_⟩
    rw [upd_upd]
    have hT2 : ∀ z, (upd H o z) e = some (.tup [.int (i : Int), .int (j : Int)]) := fun z => by rw [upd_ne no]; exact hT
    have e1 : (ns.map V.int).set i (.int ((ns.getD i 0 + ns.getD j 0) / 2)) = (ns.set i (half ns i j)).map V.int := by rw [List.map_set]; rfl
    rw [e1]
    have g3 : atI ((ns.set i (half ns i j)).map V.int) (i : Int) = some (.int (half ns i j)) := atI_nat (by rw [List.getElem?_map, List.getElem?_set_self (by exact hi)]; rfl)
    refine ⟨.ref o, rfl, .ref e, rfl, e, _, 0, .int (i : Int), rfl, rfl, SqT.of (hT2 _), rfl, o, _, _, _, rfl, rfl, SqL.of upd_same, g3, ?_⟩
    refine ⟨.ref o, rfl, .ref e, rfl, e, _, 1, .int (j : Int), rfl, rfl, SqT.of (hT2 _), rfl, o, _, _, j, rfl, rfl, upd_same, ix (by rw [List.length_map, List.length_set]; exact hj), ?_⟩
    rw [upd_upd]
    have e2 : ((ns.set i (half ns i j)).map V.int).set j (.int (half ns i j)) = (beh ns i j).map V.int := by rw [← beh_set, List.map_set (l := ns.set i (half ns i j))]
    rw [e2]
    exact ⟨.ref o, rfl, q _ o (same_new ho) ho upd_same⟩
end
end EG

/-! says, whole: the law's looks at a kind. -/
namespace EG
open PySem L2
section
variable {P : Program} {w : World} {K : PySem.W.Frag} {mg : Str → Option Value} {base : Heap}
def sp_says : Sp := fun vs H Q _ => ∃ a b : Bool, vs = [.bl a, .bl b] ∧ Q (.bl (decide (a = b))) H
theorem dec_bl (a b : Bool) : decide (V.bl a = V.bl b) = decide (a = b) := by
  by_cases h : a = b
  · subst h; simp
  · have h2 : ¬ V.bl a = V.bl b := fun z => h (V.bl.inj z)
    rw [decide_eq_false h, decide_eq_false h2]
theorem ok_says {f : Addr} {fd : FuncData} (F : Fun K "_law_says" "_law_says" s_l_says f fd) (B : Blt mg) : FnOk P w K mg base CX0 1 f fd n_says sp_says := by
  refine F.ok sc_l_says (fun vs H Q E h => ?_) (fun cdv A outer s H vs Q E hr h => ?_)
  · obtain ⟨a, b, rfl, _⟩ := h
    rfl
  · obtain ⟨a, b, rfl, q⟩ := h
    refine ⟨_, pss_one (ps_ret (pe_and (pe_callB call_isi (by rfl) B.isi PyProof.Rows.boot_isinstance (pa_cons (pv 0) (pa_cons (pe_bltn (v := .ty "bool") (by rfl) B.bool PyProof.Rows.boot_bool rfl) pa_nil)))
      (pe_one (pe_cmpR op_eq (pv 0) (pv 1) (nomark _))))), ?_⟩
    refine ⟨.bl a, rfl, _, _, _, _, true, rfl, .ty _, .base (.bl a), kit_ty (by decide +kernel), true, rfl, iteT (B := True) ⟨.bl a, rfl, .bl b, rfl, rfl, ?_⟩⟩
    rw [dec_bl]
    exact q
end
end EG

namespace EG
open PySem L2
section
variable {P : Program} {w : World} {K : PySem.W.Frag} {mg : Str → Option Value} {base : Heap}
def sp_l_whole (K : PySem.W.Frag) : Sp := fun vs H Q _ => ∃ (x : V) (b : Bool), vs = [x] ∧ Whole K H x b ∧ Q (.bl b) H
theorem ok_l_whole {f : Addr} {fd : FuncData} (F : Fun K "_law_whole" "_law_whole" s_l_whole f fd) (B : Blt mg) : FnOk P w K mg base CX0 1 f fd ["_law_number"] (sp_l_whole K) := by
  refine F.ok sc_l_whole (fun vs H Q E h => ?_) (fun cdv A outer s H vs Q E hr h => ?_)
  · obtain ⟨x, b, rfl, _⟩ := h
    rfl
  · obtain ⟨x, b, rfl, ⟨t, b1, b2, ht, h1, h2, rfl⟩, q⟩ := h
    refine ⟨_, pss_one (ps_ret (pe_and (pe_callB call_isi (by rfl) B.isi PyProof.Rows.boot_isinstance (pa_cons (pv 0) (pa_cons (pe_bltn (v := .ty "int") (by rfl) B.int PyProof.Rows.boot_int rfl) pa_nil)))
      (pe_one (pe_not (pe_callB call_isi (by rfl) B.isi PyProof.Rows.boot_isinstance (pa_cons (pv 0) (pa_cons (pe_bltn (v := .ty "bool") (by rfl) B.bool PyProof.Rows.boot_bool rfl) pa_nil))))))), ?_⟩
    refine ⟨x, rfl, _, _, _, _, b1, rfl, .ty _, ht, h1, b1, rfl, ?_⟩
    cases b1 with
    | false => exact iteF q
    | true => exact iteT ⟨x, rfl, _, _, _, _, b2, rfl, .ty _, ht, h2 rfl, b2, rfl, q⟩
end
end EG

/-! law_k01: the law's own body. -/
namespace EG
open PySem L2
theorem cut63 (ns : List Int) : ∃ ms : List Int, cutV (ns.map V.int) none (some 63) = ms.map V.int ∧ (∀ z ∈ ms, z ∈ ns) ∧ ms.length ≤ ns.length := by
  refine ⟨(ns.drop (HT.sIx (ns.map V.int).length 0 none)).take (HT.sIx (ns.map V.int).length (ns.map V.int).length (some 63) - HT.sIx (ns.map V.int).length 0 none), ?_, fun z hz => List.mem_of_mem_drop (List.mem_of_mem_take hz), ?_⟩
  · unfold cutV
    rw [List.map_take, List.map_drop]
  · rw [List.length_take, List.length_drop]
    omega
theorem nq_prs (ps : List Pr) : ¬ (!PyData.eqv (prsD ps) (prsD ps)) = true := by rw [eqv_prs, decide_eq_true rfl]; decide
theorem nq_row (ns : List Int) : ¬ (!PyData.eqv (rowD ns) (rowD ns)) = true := by rw [eqv_row, decide_eq_true rfl]; decide
theorem all_rep (n : Nat) : (List.replicate n true).all id = true := by simp
/-- what is made and then changed leaves what stood before -/
theorem same_upd2 {H H1 : Hp} {o : Addr} {x : HO} (s : Same H H1) (n : H o = none) : Same H (upd H1 o x) := fun b u e => by
  rw [upd_ne (ne_of_none e n)]
  exact s _ _ e
theorem dp_row' {K : PySem.W.Frag} {H : Hp} {a : Addr} {ns : List Int} (h : Lst H a ns) : Dp K H (.ref a) (rowD ns) := dp_row h.sq
theorem two_ways {c : Prop} [Decidable c] {U V : Prop} (v : V) (h : c → V → U) : if c then U else V := by
  by_cases x : c
  · rw [if_pos x]; exact h x v
  · rw [if_neg x]; exact v
theorem offF {A B : Prop} (h : if false = true then A else B) : B := by
  rw [if_neg Bool.false_ne_true] at h
  exact h
/-- behind the making of a row, its copy and its evenings -/
structure St1 (H0 H : Hp) (r h d : Addr) (ms : List Int) (ws : List V) : Prop where
  same : Same H0 H
  row : Lst H r ms
  han : Lst H h ms
  due : H d = some (.lst ws)
  prs : Prs H ws (evs ms)
  h0 : H0 h = none
  rh : r ≠ h
  dh : d ≠ h
theorem St1.mono {H0 H H' : Hp} {r h d : Addr} {ms : List Int} {ws : List V} (S : St1 H0 H r h d ms ws) (s : Same H H') : St1 H0 H' r h d ms ws :=
  ⟨S.same.trans s, S.row.mono s, S.han.mono s, s _ _ S.due, S.prs.mono (Same.tups s), S.h0, S.rh, S.dh⟩
section
variable {P : Program} {w : World} {K : PySem.W.Frag} {mg : Str → Option Value} {base : Heap}
def sp_law (K : PySem.W.Frag) : Sp := fun vs H Q _ => ∃ (a : Addr) (ns : List Int), vs = [.ref a] ∧ SqL K H a (ns.map V.int) ∧ ns.length ≤ 63 ∧ (∀ z ∈ ns, bits z ≤ 1048576) ∧ ∀ H', Q (.bl true) H'
abbrev N_law : List Str := ["_law_script", "_law_by", "_law_row_here", "_law_handed", "_law_due", "_law_again", "_law_found", "_law_rests", "_law_pair", "_law_less", "_law_there", "_law_squares", "_law_one", "_law_some"]
theorem ok_law {f : Addr} {fd : FuncData} (F : Fun K "law" "law" s_law f fd) (B : Blt mg)
    (c_l_row : Cal CX0 P w K mg base "_law_row" ["_law_script", "_law_by", "_law_most", "_law_greatest"] 3 (sp_row K)) (c_l_can : Cal CX0 P w K mg base "_law_can" ["_law_row_here"] 1 (sp_can K))
    (c_evenings : Cal CX0 P w K mg base "evenings" ["row"] 3 sp_evenings) (c_settled : Cal CX0 P w K mg base "settled" ["row"] 3 sp_settled) (c_l_says : Cal CX0 P w K mg base "_law_says" n_says 1 sp_says)
    (c_evened : Cal CX0 P w K mg base "evened" ["row", "evening"] 4 sp_evened) (c_fall : Cal CX0 P w K mg base "fall" ["row", "evening"] 4 sp_fall) (c_l_evened : Cal CX0 P w K mg base "_law_evened" ["_law_row_here", "_law_pair"] 1 (sp_l_evened K))
    (c_l_whole : Cal CX0 P w K mg base "_law_whole" ["_law_number"] 1 (sp_l_whole K)) : FnOk P w K mg base CX0 5 f fd ["_law_script"] (sp_law K) := by
  refine F.ok sc_law (fun vs H Q E h => ?_) (fun cdv A outer s H vs Q E hr h => ?_)
  · obtain ⟨a, ns, rfl, _⟩ := h
    rfl
  · obtain ⟨a, ns, rfl, hS, hl, hb, q⟩ := h
    refine ⟨_, (pss_cons (ps_set (i := 0) sc_law.nd rfl (.inl rfl) (pe_slice (r := rSlL K) sl_list (pv 0) po_none (po_some pe_int)))
    (pss_cons (ps_for PassesOwn.never rfl (pi_range3 (by rfl) B.range (pa_cons pe_int (pa_cons (pe_callB (call_max2 rfl) (by rfl) B.max PyProof.Rows.boot_max (pa_cons pe_int (pa_cons (pe_callB (r := rLenS K) call_len_seq (by rfl) B.len PySem.boot_len (pa_cons (pv 0) pa_nil)) pa_nil))) (pa_cons (pe_op op_add pe_int (pe_op op_fdiv (pe_callB (r := rLenS K) call_len_seq (by rfl) B.len PySem.boot_len (pa_cons (pv 0) pa_nil)) pe_int)) pa_nil)))) (pg_name (i := 1) sc_law.nd rfl (.inl rfl))
    (pss_cons (ps_set (i := 2) sc_law.nd rfl (.inl rfl) (pe_cal c_l_row hr (by rfl) (pa_cons (pv 0) (pa_cons (pv 1) (pa_cons pe_int (pa_cons pe_int pa_nil))))))
      (pss_cons (ps_par (i := 3) (j := 4) rfl sc_law.nd rfl rfl (by decide) rfl rfl (pa_cons (pe_callTy (r := rListOf K) call_list_of (by rfl) B.list PyProof.Rows.boot_list (pa_cons (pv 2) pa_nil)) (pa_cons (pe_cal c_l_can hr (by rfl) (pa_cons (pv 2) pa_nil)) pa_nil)) (by rfl))
      (pss_cons (ps_for PassesOwn.never rfl (pi_range1 (by rfl) B.range (pa_cons pe_int pa_nil)) (pg_name (i := 5) sc_law.nd rfl (.inl rfl))
      (pss_cons (ps_set (i := 6) sc_law.nd rfl (.inl rfl) (pe_cal c_evenings hr (by rfl) (pa_cons (pv 3) pa_nil)))
        (pss_cons (ps_if (PW.pt (pw_or (pt_not (pt_val (pe_callB (r := rIsi K) call_isi (by rfl) B.isi PyProof.Rows.boot_isinstance (pa_cons (pv 6) (pa_cons (pe_bltn (v := .ty "list") (by rfl) B.list PyProof.Rows.boot_list rfl) pa_nil))))) (pw_or (pt_cmpR (r := rNeD K) (op_neD hr.units) (pv 6) (pv 4) (nomark _)) (pw_or1 (pt_cmpR (r := rNeD K) (op_neD hr.units) (pv 3) (pv 2) (nomark _))))))
        (pss_one (ps_ret pe_bl))
        pss_nil)
        (pss_cons (ps_if (pt_not (pt_val (pe_callB (r := rAll K) (cr_all rfl) (by rfl) B.all PyProof.Rows.boot_all (pa_cons (pe_lc (own := [("_law_pair", 8)]) (g := gName 8) (tt := tYes) rfl sc_law.nd (pi_list (pv 6)) (blkOk_by (N := N_law) (sc := defScope s_law) (by decide +kernel)) (fun _ _ _ _ _ => (pg_name (i := 8) sc_law.nd rfl (.inl rfl))) (fun _ _ _ _ _ => pts_nil) (fun _ _ _ _ _ => (pe_callB (r := rIsi K) call_isi (by rfl) B.isi PyProof.Rows.boot_isinstance (pa_cons (pv 8) (pa_cons (pe_bltn (v := .ty "tuple") (by rfl) B.tuple PyProof.Rows.boot_tuple rfl) pa_nil))))) pa_nil))))
        (pss_one (ps_ret pe_bl))
        pss_nil)
        (pss_one (ps_expr (pe_bm PySem.F.plainAttrs_list PySem.F.slot_list_append PySem.F.type_list_append mt_append (pv 6) (pa_cons (pe_tup (pa_cons pe_int (pa_cons pe_int pa_nil))) pa_nil))))))))
      (pss_cons (ps_if (pt_not (pt_val (pe_cal c_l_says hr (by rfl) (pa_cons (pe_cal c_settled hr (by rfl) (pa_cons (pv 3) pa_nil)) (pa_cons (pe_cmpR (r := rEqD K) (op_eqD hr.units) (pv 4) (pe_lst pa_nil) (nomark _)) pa_nil)))))
      (pss_one (ps_ret pe_bl))
      pss_nil)
      (pss_cons (ps_setLc (i := 7) (own := [("_law_one", 12)]) (g := gName 12) (tt := tYes) rfl sc_law.nd rfl rfl (sw_true rfl rfl rfl (by decide +kernel)) (pi_list (pv 2)) (blkOk_by (N := N_law) (sc := defScope s_law) (by decide +kernel)) (fun _ _ _ _ _ => (pg_name (i := 12) sc_law.nd rfl (.inl rfl))) (fun _ _ _ _ _ => pts_nil) (fun _ _ _ _ _ => (pe_op op_mod (pv 12) pe_int)))
      (pss_cons (ps_if (PW.pt (pw_and (pt_cmpR (r := rEqD K) (op_eqD hr.units) (pv 4) (pe_lst pa_nil) (nomark _)) (pw_and1 (pt_cmpR op_ne (pe_lenSetG (by rfl) B.len (by rfl) B.set (pv 7)) (pe_lenSetG (by rfl) B.len (by rfl) B.set (pv 2)) (nomark _)))))
      (pss_one (ps_ret pe_bl))
      pss_nil)
      (pss_cons (ps_for PassesOwn.never rfl (pi_list (pe_step (pv 4) (po_some (pe_op op_add pe_int (pe_op op_fdiv (pe_callB (r := rLenS K) call_len_seq (by rfl) B.len PySem.boot_len (pa_cons (pv 4) pa_nil)) pe_int))))) (pg_name (i := 8) sc_law.nd rfl (.inl rfl))
      (pss_cons (ps_par (i := 6) (j := 9) rfl sc_law.nd rfl rfl (by decide) rfl rfl (pa_cons (pe_cal c_evened hr (by rfl) (pa_cons (pv 3) (pa_cons (pv 8) pa_nil))) (pa_cons (pe_cal c_fall hr (by rfl) (pa_cons (pv 3) (pa_cons (pv 8) pa_nil))) pa_nil)) (by rfl))
        (pss_cons (ps_set (i := 10) sc_law.nd rfl (.inl rfl) (pe_cal c_l_evened hr (by rfl) (pa_cons (pv 2) (pa_cons (pv 8) pa_nil))))
        (pss_cons (ps_if (PW.pt (pw_or (pt_not (pt_val (pe_callB (r := rIsi K) call_isi (by rfl) B.isi PyProof.Rows.boot_isinstance (pa_cons (pv 6) (pa_cons (pe_bltn (v := .ty "list") (by rfl) B.list PyProof.Rows.boot_list rfl) pa_nil))))) (pw_or (pt_cmpR (r := rNeD K) (op_neD hr.units) (pv 6) (pv 10) (nomark _)) (pw_or (pt_cmpR (r := rNeD K) (op_neD hr.units) (pv 3) (pv 2) (nomark _)) (pw_or1 (pt_not (pt_val (pe_cal c_l_whole hr (by rfl) (pa_cons (pv 9) pa_nil)))))))))
        (pss_one (ps_ret pe_bl))
        pss_nil)
        (pss_cons (ps_setLc (i := 11) (own := [("_law_some", 13)]) (g := gName 13) (tt := tYes) rfl sc_law.nd rfl rfl (sw_true rfl rfl rfl (by decide +kernel)) (pi_tup (pe_tup (pa_cons (pv 2) (pa_cons (pv 10) pa_nil)))) (blkOk_by (N := N_law) (sc := defScope s_law) (by decide +kernel)) (fun _ _ _ _ _ => (pg_name (i := 13) sc_law.nd rfl (.inl rfl))) (fun _ _ _ _ _ => pts_nil) (fun _ _ _ _ _ => (pe_callB (r := rSum K) (cr_sum rfl) (by rfl) B.sum PyProof.Rows.boot_sum (pa_cons (pe_lc (own := [("_law_one", 12)]) (g := gName 12) (tt := tYes) (wi := iList K (tVar 13)) rfl sc_law.nd (pi_list (pv 13)) (blkOk_by (N := N_law) (by show blkC N_law (relS _ (defScope s_law)) _ _ = true; decide +kernel)) (fun _ _ _ _ _ => (pg_name (i := 12) sc_law.nd rfl (.inl rfl))) (fun _ _ _ _ _ => pts_nil) (fun _ _ _ _ _ => (pe_op op_mul (pv 12) (pv 12)))) pa_nil))))
        (pss_cons (ps_if (PW.pt (pw_or (pt_cmpR op_ne (pv 9) (pe_op op_sub (pe_ix (r := rIxL K) ix_list (pv 11) pe_int (fun _ _ => rfl)) (pe_ix (r := rIxL K) ix_list (pv 11) pe_int (fun _ _ => rfl))) (nomark _)) (pw_or1 (pt_cmpR op_lt (pv 9) pe_int (nomark _)))))
        (pss_one (ps_ret pe_bl))
        pss_nil)
        (pss_cons (ps_expr (pe_bm PySem.F.plainAttrs_list PySem.F.slot_list_append PySem.F.type_list_append mt_append (pv 6) (pa_cons pe_int pa_nil)))
        (pss_one (ps_if (pt_cmpR (r := rNeD K) (op_neD hr.units) (pe_cal c_evened hr (by rfl) (pa_cons (pv 3) (pa_cons (pv 8) pa_nil))) (pv 10) (nomark _))
        (pss_one (ps_ret pe_bl))
        pss_nil)))))))))
      (pss_cons (ps_expr (pe_bm0 PySem.F.plainAttrs_list PySem.F.slot_list_reverse PySem.F.type_list_reverse mt_reverse (pv 3)))
      (pss_one (ps_if (PW.pt (pw_or (pt_cmpR (r := rNeD K) (op_neD hr.units) (pe_cal c_evenings hr (by rfl) (pa_cons (pv 3) pa_nil)) (pe_cal c_l_can hr (by rfl) (pa_cons (pe_revL (pv 2)) pa_nil)) (nomark _)) (pw_or1 (pt_not (pt_val (pe_cal c_l_says hr (by rfl) (pa_cons (pe_cal c_settled hr (by rfl) (pa_cons (pv 3) pa_nil)) (pa_cons (pe_cmpR (r := rEqD K) (op_eqD hr.units) (pv 4) (pe_lst pa_nil) (nomark _)) pa_nil))))))))
      (pss_one (ps_ret pe_bl))
      pss_nil)))))))))))
    (pss_one (ps_ret (pe_and (pe_cmpR (r := rEqD K) (op_eqD hr.units) (pe_cal c_evened hr (by rfl) (pa_cons (pe_lst (pa_cons pe_int (pa_cons pe_int (pa_cons pe_int pa_nil)))) (pa_cons (pe_tup (pa_cons pe_int (pa_cons pe_int pa_nil))) pa_nil))) (pe_lst (pa_cons pe_int (pa_cons pe_int (pa_cons pe_int pa_nil)))) (nomark _)) (pe_and (pe_cmpR (r := rEqD K) (op_eqD hr.units) (pe_cal c_evenings hr (by rfl) (pa_cons (pe_lst (pa_cons pe_int (pa_cons pe_int (pa_cons pe_int pa_nil)))) pa_nil)) (pe_lst (pa_cons (pe_tup (pa_cons pe_int (pa_cons pe_int pa_nil))) (pa_cons (pe_tup (pa_cons pe_int (pa_cons pe_int pa_nil))) pa_nil))) (nomark _)) (pe_one (pe_cmpR op_isBl (pe_cal c_settled hr (by rfl) (pa_cons (pe_lst (pa_cons pe_int pa_nil)) pa_nil)) pe_bl (nomark _))))))))), ?_⟩
    -- the script's first cells
    obtain ⟨cs, ecs, hcs, lcs⟩ := cut63 ns
    refine ⟨.ref a, rfl, 63, rfl, a, _, rfl, hS, fun sc hsc => ?_⟩
    rw [ecs]
    have sS : Same H (upd H sc (.lst (cs.map V.int))) := same_new hsc
    have hSc : Lst (upd H sc (.lst (cs.map V.int))) sc cs := upd_same
    have bcs : ∀ z ∈ cs, bits z ≤ 1048576 := fun z hz => hb z (hcs z hz)
    generalize upd H sc (.lst (cs.map V.int)) = H0 at hSc
    have lc : ((cs.map V.int).length : Int) = cs.length := by rw [List.length_map]
    obtain ⟨len, elen, len1, len2⟩ : ∃ len : Int, (if ((cs.map V.int).length : Int) > 1 then ((cs.map V.int).length : Int) else 1) = len ∧ 0 ≤ len ∧ len ≤ 63 := ⟨_, rfl, by split <;> omega, by split <;> omega⟩
    obtain ⟨n, rg, hrg⟩ := rgC_pos (len := len) (c := 1 + ((cs.map V.int).length : Int) / 6) (by omega) (by omega) len1 (by omega)
    refine ⟨.ref sc, rfl, sc, _, rfl, .inl hSc.sq, _, _, rfl, ?_⟩
    rw [elen]
    refine ⟨.ref sc, rfl, sc, _, rfl, .inl hSc.sq, _, _, rfl, rfl, ⟨by decide, by decide⟩, _, _, rfl, rfl, 0, len, _, n, rfl, rg, for_rangeC
      (fun i σ H' => ∃ x1 x2 x3 x4 x5 x6 x7 x8 x9 x10 x11 x12 x13, σ = [some (.ref sc), x1, x2, x3, x4, x5, x6, x7, x8, x9, x10, x11, x12, x13] ∧ Same H0 H')
      ⟨none, none, none, none, none, none, none, none, none, none, none, none, none, rfl, Same.refl _⟩ (fun i σ H1 hi h => ?_) (fun σ H1 h => ?_)⟩
    · obtain ⟨x1, x2, x3, x4, x5, x6, x7, x8, x9, x10, x11, x12, x13, rfl, s1⟩ := h
      obtain ⟨by0, by1⟩ := hrg i hi
      -- the row, its copy, its evenings
      refine ⟨.ref sc, rfl, .int (0 + (i : Int) * (1 + ((cs.map V.int).length : Int) / 6)), rfl, sc, cs, _, 12, 1000000, rfl, (hSc.mono s1).sq, bcs, by omega, by omega, by decide, by decide, by decide, by decide, fun H2 r ms s2 hr0 hR ok => ?_⟩
      have l12 := ok.len12
      refine ⟨.ref r, rfl, r, _, rfl, .inl hR.sq, fun hd hhd => ?_⟩
      have s3 : Same H2 (upd H2 hd (.lst (ms.map V.int))) := same_new hhd
      refine ⟨.ref r, rfl, r, ms, rfl, (hR.mono s3).sq, l12, fun H3 d ws s4 hd0 hD pD => ?_⟩
      have S3 : St1 H0 H3 r hd d ms ws := by
        refine ⟨((s1.trans s2).trans s3).trans s4, (hR.mono s3).mono s4, ?_, hD, pD, (s1.trans s2).free hhd, ne_of_none hR hhd, fun e => ?_⟩
        · exact Lst.mono s4 (show Lst (upd H2 hd (.lst (ms.map V.int))) hd ms from upd_same)
        · rw [e, upd_same] at hd0
          cases hd0
      refine ⟨_, _, rfl, ?_⟩
      -- told twice
      refine ⟨2, rfl, by decide, by decide, for_range
        (fun _ σ H' => ∃ x5 x6, σ = [some (.ref sc), some (.int (0 + (i : Int) * (1 + ((cs.map V.int).length : Int) / 6))), some (.ref r), some (.ref hd), some (.ref d), x5, x6, x7, x8, x9, x10, x11, x12, x13] ∧ Same H3 H')
        ⟨x5, x6, rfl, Same.refl _⟩ (fun k σ H4 hk h => ?_) (fun σ H4 h => ?_)⟩
      · obtain ⟨x5, x6, rfl, s5⟩ := h
        have S4 := S3.mono s5
        refine ⟨.ref hd, rfl, hd, ms, rfl, S4.han, ok, fun H5 o ws5 s6 ho hO pO => ?_⟩
        have S5 := S4.mono s6
        refine ⟨.ref o, rfl, _, _, _, _, true, rfl, .ty _, .base (.lst hO), kit_ty (by decide +kernel), true, rfl, iteF (A := True) ⟨.ref o, rfl, .ref d, rfl, prsD (evs ms), prsD (evs ms), dp_prs (SqL.of hO) pO, dp_prs (SqL.of S5.due) S5.prs, shaped_prs _, shaped_prs _, _, rfl, itN (nq_prs _) ?_⟩⟩
        refine ⟨.ref hd, rfl, .ref r, rfl, rowD ms, rowD ms, dp_row' S5.han, dp_row' S5.row, shaped_row _, shaped_row _, _, rfl, itN (nq_row _) ?_⟩
        have lO : ws5.length ≤ 144 := by rw [pO.length]; exact evs_len l12
        refine ⟨.ref o, rfl, o, rfl, ⟨_, SqL.of hO⟩, fun D hD => lc_list (K := K) (a := o) (xs := ws5)
          (fun i H' => Same H5 H' ∧ H' D = some (.lst ((List.replicate i true).map V.bl))) ⟨same_new hD, upd_same⟩ (fun i H' _ h => SqL.of (h.1 _ _ hO)) (fun i x H' hx h => ?_) (fun H' h => ?_)⟩
        · have hil := (List.getElem?_eq_some_iff.mp hx).1
          obtain ⟨pr, _, tx, rfl, htx⟩ := prs_mem pO (List.mem_of_getElem? hx)
          refine ⟨rfl, iteT (B := True) ⟨.ref tx, rfl, _, _, _, _, true, rfl, .ty _, .base (.tup (h.1 _ _ htx)), kit_ty (by decide +kernel), ?_⟩⟩
          refine ⟨_, h.2, small1000 (by rw [List.length_map, List.length_replicate]; omega), same_upd2 h.1 hD, ?_⟩
          rw [upd_same, List.replicate_succ', List.map_append]
          rfl
        · refine ⟨D, List.replicate ws5.length true, rfl, SqL.of h.2, _, rfl, itN (by rw [all_rep]; decide) ?_⟩
          have hO2 := h.1 _ _ hO
          refine ⟨.ref o, rfl, .inl ⟨rfl, _, SqL.of hO2⟩, (by show 2 ≤ sizeLine; decide), fun tz htz => ?_⟩
          refine ⟨o, ws5, _, rfl, rfl, same_new htz _ _ hO2, small1000 (by omega), ?_⟩
          exact ⟨_, _, rfl, same_upd2 (((s5.trans s6).trans h.1).trans (same_new htz)) (s5.free ho)⟩
      · obtain ⟨x5, x6, rfl, s5⟩ := h
        have S4 := S3.mono s5
        -- settled
        refine ⟨.ref hd, rfl, hd, ms, rfl, S4.han, ok, fun H5 s6 => ?_⟩
        have S5 := S4.mono s6
        refine ⟨.ref d, rfl, Nat.zero_le _, fun z hz => ?_⟩
        have s7 : Same H5 (upd H5 z (.lst [])) := same_new hz
        have S6 := S5.mono s7
        refine ⟨prsD (evs ms), prsD [], dp_prs (SqL.of S6.due) S6.prs, dp_prs (SqL.of upd_same) .nil, shaped_prs _, shaped_prs _, _, _, rfl, _, rfl, itN (by rw [eqv_prs]; simp) ?_⟩
        generalize upd H5 z (.lst []) = H6 at S6
        -- the rests
        refine ⟨.ref r, rfl, r, rfl, ⟨_, S6.row.sq⟩, fun D hD => lc_list (K := K) (a := r) (xs := ms.map V.int)
          (fun i H' => Same H6 H' ∧ Lst H' D ((ms.take i).map (· % 2))) ⟨same_new hD, upd_same⟩ (fun i H' _ h => (S6.mono h.1).row.sq) (fun i x H' hx h => ?_) (fun H7 h => ?_)⟩
        · obtain ⟨n, rfl, hn⟩ := row_item hx
          have hil := (List.getElem?_eq_some_iff.mp hn).1
          refine ⟨rfl, iteT (B := True) ⟨.int n, rfl, _, _, rfl, rfl, (by show (0 : Int) < 2; decide), ?_⟩⟩
          refine ⟨_, h.2, small1000 (by rw [List.length_map, List.length_map, List.length_take]; omega), same_upd2 h.1 hD, ?_⟩
          unfold Lst
          rw [upd_same, List.take_add_one, hn, List.map_append, List.map_append]
          rfl
        · obtain ⟨s8, hD7⟩ := h
          have S7 := S6.mono s8
          rw [List.length_map, List.take_length] at hD7
          refine ⟨.ref d, rfl, Nat.zero_le _, fun z2 hz2 => ?_⟩
          have s9 : Same H7 (upd H7 z2 (.lst [])) := same_new hz2
          have S8 := S7.mono s9
          have hD8 := hD7.mono s9
          refine ⟨prsD (evs ms), prsD [], dp_prs (SqL.of S8.due) S8.prs, dp_prs (SqL.of upd_same) .nil, shaped_prs _, shaped_prs _, _, rfl, ?_⟩
          rw [eqv_prs]
          refine two_ways ?_ (fun he v => ?_)
          case refine_2 =>
            have he2 := of_decide_eq_true he
            refine ⟨.ref D, rfl, D, _, rfl, hD8.sq, by rw [List.length_map]; omega, .ref r, rfl, r, ms, rfl, S8.row.sq, by omega, rfl, _, rfl, itN (by rw [dcount_rest he2]; simp) (offF v)⟩
          refine iteF (A := True) ?_
          generalize upd H7 z2 (.lst []) = H8 at S8 hD8
          -- for each evening of the slice
          refine ⟨.ref d, rfl, .ref d, rfl, d, ws, rfl, .inl (SqL.of S8.due), _, _, rfl, rfl, ⟨by decide, by decide⟩, _, _, rfl, rfl, _, rfl, d, ws, _, rfl, rfl, by omega, SqL.of S8.due, fun sp ys hys lys hsp => ⟨sp, rfl, ⟨_, SqL.of upd_same⟩, ?_⟩⟩
          have s10 : Same H8 (upd H8 sp (.lst ys)) := same_new hsp
          have S9 := S8.mono s10
          have hsp9 : (upd H8 sp (.lst ys)) sp = some (.lst ys) := upd_same
          generalize upd H8 sp (.lst ys) = H9 at S9 hsp9
          refine for_list (K := K) (a := sp) (xs := ys)
            (fun _ σ H' => ∃ x5 x6 x8 x9 x10 x11 x12 x13, σ = [some (.ref sc), some (.int (0 + (i : Int) * (1 + ((cs.map V.int).length : Int) / 6))), some (.ref r), some (.ref hd), some (.ref d), x5, x6, some (.ref D), x8, x9, x10, x11, x12, x13] ∧ Same H9 H')
            ⟨_, _, _, _, _, _, _, _, rfl, Same.refl _⟩ (fun i σ H' _ h => ?_) (fun k x σ H10 hx h => ?_) (fun σ H10 h => ?_)
          · obtain ⟨_, _, _, _, _, _, _, _, _, sA⟩ := h
            exact SqL.of (sA _ _ hsp9)
          · obtain ⟨x5, x6, x8, x9, x10, x11, x12, x13, rfl, sA⟩ := h
            have SA := S9.mono sA
            obtain ⟨p, hp, t, rfl, ht⟩ := prs_mem S9.prs (hys x (List.mem_of_getElem? hx))
            have htA := sA _ _ ht
            obtain ⟨efl, fl1⟩ := sq_fall hp
            -- evened, fall
            refine ⟨.ref hd, rfl, .ref t, rfl, hd, t, ms, p, rfl, SA.han, ok, htA, hp, fun HB o sB ho hO => ?_⟩
            have SB := SA.mono sB
            refine ⟨.ref hd, rfl, .ref t, rfl, hd, t, ms, p, rfl, SB.han, ok, sB _ _ htA, hp, fun HC sC => ⟨_, _, rfl, ?_⟩⟩
            have SC := SB.mono sC
            have htC := sC _ _ (sB _ _ htA)
            refine ⟨.ref r, rfl, .ref t, rfl, r, t, ms, p, rfl, SC.row.sq, htC, hp, l12, fun HD th sD hth hTh => ?_⟩
            have SD := SC.mono sD
            have hOD := (hO.mono sC).mono sD
            refine ⟨.ref o, rfl, _, _, _, _, true, rfl, .ty _, .base (.lst hOD), kit_ty (by decide +kernel), true, rfl, iteF (A := True) ⟨.ref o, rfl, .ref th, rfl, rowD (behP ms p), rowD (behP ms p), dp_row' hOD, dp_row' hTh, shaped_row _, shaped_row _, _, rfl, itN (nq_row _) ?_⟩⟩
            refine ⟨.ref hd, rfl, .ref r, rfl, rowD ms, rowD ms, dp_row' SD.han, dp_row' SD.row, shaped_row _, shaped_row _, _, rfl, itN (nq_row _) ⟨.int (fallP ms p), rfl, _, true, rfl, whole_int _, true, rfl, iteF (A := True) ?_⟩⟩
            -- the squares
            refine ⟨.ref r, rfl, .ref th, rfl, (by show 2 ≤ sizeLine; decide), fun tt htt => ⟨tt, rfl, ⟨_, SqT.of upd_same⟩, fun D2 hD2 => ?_⟩⟩
            have sE : Same HD (upd HD tt (.tup [.ref r, .ref th])) := same_new htt
            have SE := SD.mono sE
            have hTE : (upd HD tt (.tup [.ref r, .ref th])) tt = some (.tup [.ref r, .ref th]) := upd_same
            have hThE := hTh.mono sE
            have hOE := hOD.mono sE
            generalize upd HD tt (.tup [.ref r, .ref th]) = HE at *
            have two : ∀ (i : Nat) (x : V), [V.ref r, V.ref th][i]? = some x → ∃ (z : Addr) (zs : List Int), x = .ref z ∧ Lst HE z zs ∧ RowOk zs 12 1000000 ∧ [sq ms, sq (behP ms p)][i]? = some (sq zs) := fun i x hx => by
              match i, hx with
              | 0, hx =>
                cases hx
                exact ⟨r, ms, rfl, SE.row, ok, rfl⟩
              | 1, hx =>
                cases hx
                exact ⟨th, behP ms p, rfl, hThE, ok.beh hp, rfl⟩
              | n + 2, hx => simp at hx
            refine lc_tup (K := K) (a := tt) (xs := [.ref r, .ref th]) (fun i H' => Same HE H' ∧ Lst H' D2 ([sq ms, sq (behP ms p)].take i)) ⟨same_new hD2, upd_same⟩ (fun i H' _ h => SqT.of (h.1 _ _ hTE)) (fun i x HF hx h => ?_) (fun HF h => ?_)
            · obtain ⟨z, zs, rfl, hz, okz, hzi⟩ := two i x hx
              have l12z := okz.len12
              refine ⟨rfl, iteT (B := True) ⟨.ref z, rfl, z, rfl, ⟨_, (hz.mono h.1).sq⟩, fun D3 hD3 => ?_⟩⟩
              refine lc_list (K := K) (a := z) (xs := zs.map V.int) (fun j H' => Same HF H' ∧ Lst H' D3 ((zs.take j).map fun y => y * y)) ⟨same_new hD3, upd_same⟩ (fun j H' _ h2 => ((hz.mono h.1).mono h2.1).sq) (fun j y HG hy h2 => ?_) (fun HG h2 => ?_)
              · obtain ⟨n, rfl, hn⟩ := row_item hy
                obtain ⟨b0, b1⟩ := okz.2.2 n (List.mem_of_getElem? hn)
                refine ⟨rfl, iteT (B := True) ⟨.int n, rfl, .int n, rfl, _, _, rfl, rfl, .inl ⟨by omega, by omega⟩, ?_⟩⟩
                refine ⟨_, h2.2, small1000 (by rw [List.length_map, List.length_map, List.length_take]; omega), same_upd2 h2.1 hD3, ?_⟩
                unfold Lst
                rw [upd_same, List.take_add_one, hn, List.map_append, List.map_append]
                rfl
              · have h3 := h2.2
                rw [List.length_map, List.take_length] at h3
                refine ⟨D3, _, rfl, h3.sq, ?_⟩
                refine ⟨_, h2.1 _ _ h.2, small1000 (by rw [List.length_map, List.length_take]; show min i 2 ≤ 1000; omega), same_upd2 (h.1.trans h2.1) hD2, ?_⟩
                unfold Lst
                rw [upd_same, List.take_add_one, hzi, List.map_append]
                rfl
            · obtain ⟨sF, hD2F⟩ := h
              have SF := SE.mono sF
              have hOF := hOE.mono sF
              have hThF := hThE.mono sF
              have sAF : Same H10 HF := (((sB.trans sC).trans sD).trans sE).trans sF
              refine ⟨.int (fallP ms p), rfl, .ref D2, rfl, D2, _, 0, .int (sq ms), rfl, rfl, hD2F.sq, rfl, .ref D2, rfl, D2, _, 1, .int (sq (behP ms p)), rfl, rfl, hD2F.sq, rfl, _, _, rfl, rfl, rfl, _, rfl, itN (by rw [dec_int, efl]; simp) ?_⟩
              refine ⟨.int (fallP ms p), rfl, _, _, rfl, rfl, _, rfl, itN (by simp; omega) ?_⟩
              have lB : (behP ms p).length ≤ 12 := (ok.beh hp).len12
              refine ⟨.ref o, rfl, .inl ⟨rfl, _, SqL.of hOF⟩, o, _, _, rfl, rfl, hOF, small1000 (by rw [List.length_map]; omega), ?_⟩
              have oth : ∀ {b : Addr} {x : HO}, H10 b = some x → b ≠ o := fun e => ne_of_none e ho
              have SG : St1 H0 (upd HF o (.lst ((behP ms p).map V.int ++ [.int 0]))) r hd d ms ws := SA.mono (same_upd2 sAF ho)
              have hThG : Lst (upd HF o (.lst ((behP ms p).map V.int ++ [.int 0]))) th (behP ms p) := by
                have n1 : th ≠ o := fun e => by
                  rw [e] at hth
                  exact absurd hth (by rw [hO.mono sC]; simp)
                unfold Lst
                rw [upd_ne n1]
                exact hThF
              have htG : (upd HF o (.lst ((behP ms p).map V.int ++ [.int 0]))) t = some (.tup [.int p.1, .int p.2]) := by
                rw [upd_ne (oth htA)]
                exact sAF _ _ htA
              refine ⟨.ref hd, rfl, .ref t, rfl, hd, t, ms, p, rfl, SG.han, ok, htG, hp, fun HH o2 sH ho2 hO2 => ?_⟩
              refine ⟨.ref th, rfl, rowD (behP ms p), rowD (behP ms p), dp_row' hO2, dp_row' (hThG.mono sH), shaped_row _, shaped_row _, _, rfl, itN (nq_row _) ?_⟩
              exact ⟨_, _, _, _, _, _, _, _, rfl, (sA.trans (same_upd2 sAF ho)).trans sH⟩
          · obtain ⟨x5, x6, x8, x9, x10, x11, x12, x13, rfl, sA⟩ := h
            have SA := S9.mono sA
            -- turned about
            refine ⟨.ref hd, rfl, .inl ⟨rfl, _, SqL.of SA.han⟩, hd, _, rfl, rfl, SA.han, ?_⟩
            have sR : Same H0 (upd H10 hd (.lst (ms.map V.int).reverse)) := same_upd2 SA.same SA.h0
            have hRv : Lst (upd H10 hd (.lst (ms.map V.int).reverse)) hd ms.reverse := by
              unfold Lst
              rw [upd_same, List.map_reverse]
            have hRr : Lst (upd H10 hd (.lst (ms.map V.int).reverse)) r ms := by
              unfold Lst
              rw [upd_ne SA.rh]
              exact SA.row
            have hRd : (upd H10 hd (.lst (ms.map V.int).reverse)) d = some (.lst ws) := by
              rw [upd_ne SA.dh]
              exact SA.due
            have hRp : Prs (upd H10 hd (.lst (ms.map V.int).reverse)) ws (evs ms) := SA.prs.mono (tups_lst SA.han)
            generalize upd H10 hd (.lst (ms.map V.int).reverse) = HB at *
            refine ⟨.ref hd, rfl, hd, ms.reverse, rfl, hRv, ok.rev, fun HC o ws2 sC ho hO pO => ?_⟩
            refine ⟨.ref r, rfl, r, _, rfl, (hRr.mono sC).sq, fun v hv => ?_⟩
            have sD : Same HC (upd HC v (.lst (ms.map V.int).reverse)) := same_new hv
            refine ⟨v, ms.reverse, rfl, ?_, by rw [List.length_reverse]; exact l12, fun HD o2 ws3 sE ho2 hO2 pO2 => ?_⟩
            · rw [List.map_reverse]
              exact SqL.of upd_same
            · have hOD := sE _ _ (sD _ _ hO)
              refine ⟨prsD (evs ms.reverse), prsD (evs ms.reverse), dp_prs (SqL.of hOD) (pO.mono (Same.tups (sD.trans sE))), dp_prs (SqL.of hO2) pO2, shaped_prs _, shaped_prs _, _, rfl, itN (nq_prs _) ?_⟩
              have sF : Same HB HD := (sC.trans sD).trans sE
              refine ⟨.ref hd, rfl, hd, ms.reverse, rfl, hRv.mono sF, ok.rev, fun HE sG => ?_⟩
              have sH := sF.trans sG
              refine ⟨.ref d, rfl, Nat.zero_le _, fun z hz => ?_⟩
              have sI : Same HE (upd HE z (.lst [])) := same_new hz
              refine ⟨prsD (evs ms), prsD [], dp_prs (SqL.of (sI _ _ (sH _ _ hRd))) (hRp.mono (Same.tups (sH.trans sI))), dp_prs (SqL.of upd_same) .nil, shaped_prs _, shaped_prs _, _, _, rfl, _, rfl, itN ?_ ?_⟩
              · rw [eqv_prs]
                by_cases c : evs ms = []
                · rw [decide_eq_true c, decide_eq_true (evs_rev_iff.mpr c)]; simp
                · rw [decide_eq_false c, decide_eq_false (fun z => c (evs_rev_iff.mp z))]; simp
              · exact ⟨_, _, _, _, _, _, _, _, _, _, _, _, _, rfl, (sR.trans sH).trans sI⟩
    · -- the end
      obtain ⟨x1, x2, x3, x4, x5, x6, x7, x8, x9, x10, x11, x12, x13, rfl, s1⟩ := h
      have okA : RowOk [1, 4, 5] 12 1000000 := by unfold RowOk; decide
      have okB : RowOk [2, 2, 4] 12 1000000 := by unfold RowOk; decide
      have okC : RowOk [0] 12 1000000 := by unfold RowOk; decide
      have eA : ((0 : Int), (2 : Int)) ∈ evs [1, 4, 5] := by decide
      have eA2 : behP [1, 4, 5] (0, 2) = [3, 4, 3] := by decide
      have eB : evs [2, 2, 4] = [(0, 2), (1, 2)] := by decide
      have eC : evs [0] = [] := by decide
      refine ⟨(by show 3 ≤ sizeLine; decide), fun l hl => ?_⟩
      have hL : Lst (upd H1 l (.lst [.int 1, .int 4, .int 5])) l [1, 4, 5] := upd_same
      generalize upd H1 l (.lst [.int 1, .int 4, .int 5]) = H2 at hL
      refine ⟨(by show 2 ≤ sizeLine; decide), fun t ht => ?_⟩
      refine ⟨l, t, [1, 4, 5], (0, 2), rfl, hL.mono (same_new ht), okA, upd_same, eA, fun H3 o s3 ho hO => ?_⟩
      rw [eA2] at hO
      refine ⟨(by show 3 ≤ sizeLine; decide), fun l2 hl2 => ?_⟩
      refine ⟨rowD [3, 4, 3], rowD [3, 4, 3], dp_row' (hO.mono (same_new hl2)), dp_row (SqL.of upd_same), shaped_row _, shaped_row _, _, rfl, itP (by rw [eqv_row]; rfl) ?_⟩
      generalize upd H3 l2 (.lst [.int 3, .int 4, .int 3]) = H4
      refine ⟨(by show 3 ≤ sizeLine; decide), fun l3 hl3 => ?_⟩
      refine ⟨l3, [2, 2, 4], rfl, upd_same, okB, fun H5 o5 w5 s5 ho5 hO5 p5 => ?_⟩
      rw [eB] at p5
      refine ⟨(by show 2 ≤ sizeLine; decide), fun t1 ht1 => ⟨(by show 2 ≤ sizeLine; decide), fun t2 ht2 => ⟨(by show 2 ≤ sizeLine; decide), fun l4 hl4 => ?_⟩⟩⟩
      have sx : Same H5 (upd (upd (upd H5 t1 (.tup [.int 0, .int 2])) t2 (.tup [.int 1, .int 2])) l4 (.lst [.ref t1, .ref t2])) := ((same_new ht1).trans (same_new ht2)).trans (same_new hl4)
      refine ⟨prsD [(0, 2), (1, 2)], prsD [(0, 2), (1, 2)], dp_prs (SqL.of (sx _ _ hO5)) (p5.mono (Same.tups sx)), dp_prs (SqL.of upd_same) (.cons ⟨t1, rfl, ?_⟩ (.cons ⟨t2, rfl, ?_⟩ .nil)), shaped_prs _, shaped_prs _, _, rfl, itP (by rw [eqv_prs]; rfl) ?_⟩
      · exact (same_new hl4) _ _ ((same_new ht2) _ _ upd_same)
      · exact (same_new hl4) _ _ upd_same
      · refine ⟨(by show 1 ≤ sizeLine; decide), fun l5 hl5 => ?_⟩
        refine ⟨l5, [0], rfl, upd_same, okC, fun H6 s6 => ?_⟩
        rw [eC]
        exact ⟨_, _, rfl, rfl, q H6⟩
end
end EG

/-! What the top has written, and the law. -/
namespace EG
open PySem L2
theorem all_mk {l : PySem.W.OpenLaw} {w : World} {K : PySem.W.Frag} {h : Heap} {mg : Str → Option Value} {fa : Addr} (X : K.In h) (G : h.Ns mainGlobals mg) (hfa : mg "law" = some (.ref fa))
    {f0 f1 f2 f3 f4 f5 f6 f7 f8 f9 f10 f11 f12 f13 f14 f15 f16 f17 : Addr} {od0 an0 od1 an1 od2 an2 od3 an3 od4 an4 od5 an5 od6 an6 od7 an7 od8 an8 od9 an9 od10 an10 od11 an11 od12 an12 od13 an13 od14 an14 od15 an15 od16 an16 od17 an17 : Option Addr} {sl0 sl1 sl2 sl3 sl4 sl5 sl6 sl7 sl8 sl9 sl10 sl11 sl12 sl13 sl14 sl15 sl16 sl17 : Array (Option Value)}
    {oc0 kV0 dc0 pm0 cd0 ct0 oc1 kV1 dc1 pm1 cd1 ct1 oc2 kV2 dc2 pm2 cd2 ct2 oc3 kV3 dc3 pm3 cd3 ct3 oc4 kV4 dc4 pm4 cd4 ct4 oc5 kV5 dc5 pm5 cd5 ct5 oc6 kV6 dc6 pm6 cd6 ct6 oc7 kV7 dc7 pm7 cd7 ct7 oc8 kV8 dc8 pm8 cd8 ct8 oc9 kV9 dc9 pm9 cd9 ct9 oc10 kV10 dc10 pm10 cd10 ct10 oc11 kV11 dc11 pm11 cd11 ct11 oc12 kV12 dc12 pm12 cd12 ct12 oc13 kV13 dc13 pm13 cd13 ct13 oc14 kV14 dc14 pm14 cd14 ct14 oc15 kV15 dc15 pm15 cd15 ct15 oc16 kV16 dc16 pm16 cd16 ct16 oc17 kV17 dc17 pm17 cd17 ct17 : Value} {t_MOST t_GREATEST : Tok}
    (a0 : PySem.W.nsIn K mainGlobals "is_whole" = some (some (.ref f0))) (l0 : K.lookup f0 = some ⟨oc0, od0, .func (PySem.W.fnOf "is_whole" "is_whole" (defArgs s_is_whole) (defBody s_is_whole) (defScope s_is_whole) .none kV0 dc0 pm0 an0 cd0 ct0), sl0⟩)
    (c0 : PySem.W.codeIn K cd0 "is_whole" = true) (k0 : PySem.W.keepIn K (.ref f0) = true)
    (a1 : PySem.W.nsIn K mainGlobals "check_row" = some (some (.ref f1))) (l1 : K.lookup f1 = some ⟨oc1, od1, .func (PySem.W.fnOf "check_row" "check_row" (defArgs s_check_row) (defBody s_check_row) (defScope s_check_row) .none kV1 dc1 pm1 an1 cd1 ct1), sl1⟩)
    (c1 : PySem.W.codeIn K cd1 "check_row" = true) (k1 : PySem.W.keepIn K (.ref f1) = true)
    (a2 : PySem.W.nsIn K mainGlobals "evenings_of" = some (some (.ref f2))) (l2 : K.lookup f2 = some ⟨oc2, od2, .func (PySem.W.fnOf "evenings_of" "evenings_of" (defArgs s_evenings_of) (defBody s_evenings_of) (defScope s_evenings_of) .none kV2 dc2 pm2 an2 cd2 ct2), sl2⟩)
    (c2 : PySem.W.codeIn K cd2 "evenings_of" = true) (k2 : PySem.W.keepIn K (.ref f2) = true)
    (a3 : PySem.W.nsIn K mainGlobals "evenings" = some (some (.ref f3))) (l3 : K.lookup f3 = some ⟨oc3, od3, .func (PySem.W.fnOf "evenings" "evenings" (defArgs s_evenings) (defBody s_evenings) (defScope s_evenings) .none kV3 dc3 pm3 an3 cd3 ct3), sl3⟩)
    (c3 : PySem.W.codeIn K cd3 "evenings" = true) (k3 : PySem.W.keepIn K (.ref f3) = true)
    (a4 : PySem.W.nsIn K mainGlobals "settled" = some (some (.ref f4))) (l4 : K.lookup f4 = some ⟨oc4, od4, .func (PySem.W.fnOf "settled" "settled" (defArgs s_settled) (defBody s_settled) (defScope s_settled) .none kV4 dc4 pm4 an4 cd4 ct4), sl4⟩)
    (c4 : PySem.W.codeIn K cd4 "settled" = true) (k4 : PySem.W.keepIn K (.ref f4) = true)
    (a5 : PySem.W.nsIn K mainGlobals "behind" = some (some (.ref f5))) (l5 : K.lookup f5 = some ⟨oc5, od5, .func (PySem.W.fnOf "behind" "behind" (defArgs s_behind) (defBody s_behind) (defScope s_behind) .none kV5 dc5 pm5 an5 cd5 ct5), sl5⟩)
    (c5 : PySem.W.codeIn K cd5 "behind" = true) (k5 : PySem.W.keepIn K (.ref f5) = true)
    (a6 : PySem.W.nsIn K mainGlobals "check_evening" = some (some (.ref f6))) (l6 : K.lookup f6 = some ⟨oc6, od6, .func (PySem.W.fnOf "check_evening" "check_evening" (defArgs s_check_evening) (defBody s_check_evening) (defScope s_check_evening) .none kV6 dc6 pm6 an6 cd6 ct6), sl6⟩)
    (c6 : PySem.W.codeIn K cd6 "check_evening" = true) (k6 : PySem.W.keepIn K (.ref f6) = true)
    (a7 : PySem.W.nsIn K mainGlobals "evened" = some (some (.ref f7))) (l7 : K.lookup f7 = some ⟨oc7, od7, .func (PySem.W.fnOf "evened" "evened" (defArgs s_evened) (defBody s_evened) (defScope s_evened) .none kV7 dc7 pm7 an7 cd7 ct7), sl7⟩)
    (c7 : PySem.W.codeIn K cd7 "evened" = true) (k7 : PySem.W.keepIn K (.ref f7) = true)
    (a8 : PySem.W.nsIn K mainGlobals "fall" = some (some (.ref f8))) (l8 : K.lookup f8 = some ⟨oc8, od8, .func (PySem.W.fnOf "fall" "fall" (defArgs s_fall) (defBody s_fall) (defScope s_fall) .none kV8 dc8 pm8 an8 cd8 ct8), sl8⟩)
    (c8 : PySem.W.codeIn K cd8 "fall" = true) (k8 : PySem.W.keepIn K (.ref f8) = true)
    (a9 : PySem.W.nsIn K mainGlobals "_law_cell_at" = some (some (.ref f9))) (l9 : K.lookup f9 = some ⟨oc9, od9, .func (PySem.W.fnOf "_law_cell_at" "_law_cell_at" (defArgs s_l_cell_at) (defBody s_l_cell_at) (defScope s_l_cell_at) .none kV9 dc9 pm9 an9 cd9 ct9), sl9⟩)
    (c9 : PySem.W.codeIn K cd9 "_law_cell_at" = true) (k9 : PySem.W.keepIn K (.ref f9) = true)
    (a10 : PySem.W.nsIn K mainGlobals "_law_draw" = some (some (.ref f10))) (l10 : K.lookup f10 = some ⟨oc10, od10, .func (PySem.W.fnOf "_law_draw" "_law_draw" (defArgs s_l_draw) (defBody s_l_draw) (defScope s_l_draw) .none kV10 dc10 pm10 an10 cd10 ct10), sl10⟩)
    (c10 : PySem.W.codeIn K cd10 "_law_draw" = true) (k10 : PySem.W.keepIn K (.ref f10) = true)
    (a11 : PySem.W.nsIn K mainGlobals "_law_value" = some (some (.ref f11))) (l11 : K.lookup f11 = some ⟨oc11, od11, .func (PySem.W.fnOf "_law_value" "_law_value" (defArgs s_l_value) (defBody s_l_value) (defScope s_l_value) .none kV11 dc11 pm11 an11 cd11 ct11), sl11⟩)
    (c11 : PySem.W.codeIn K cd11 "_law_value" = true) (k11 : PySem.W.keepIn K (.ref f11) = true)
    (a12 : PySem.W.nsIn K mainGlobals "_law_whole" = some (some (.ref f12))) (l12 : K.lookup f12 = some ⟨oc12, od12, .func (PySem.W.fnOf "_law_whole" "_law_whole" (defArgs s_l_whole) (defBody s_l_whole) (defScope s_l_whole) .none kV12 dc12 pm12 an12 cd12 ct12), sl12⟩)
    (c12 : PySem.W.codeIn K cd12 "_law_whole" = true) (k12 : PySem.W.keepIn K (.ref f12) = true)
    (a13 : PySem.W.nsIn K mainGlobals "_law_says" = some (some (.ref f13))) (l13 : K.lookup f13 = some ⟨oc13, od13, .func (PySem.W.fnOf "_law_says" "_law_says" (defArgs s_l_says) (defBody s_l_says) (defScope s_l_says) .none kV13 dc13 pm13 an13 cd13 ct13), sl13⟩)
    (c13 : PySem.W.codeIn K cd13 "_law_says" = true) (k13 : PySem.W.keepIn K (.ref f13) = true)
    (a14 : PySem.W.nsIn K mainGlobals "_law_row" = some (some (.ref f14))) (l14 : K.lookup f14 = some ⟨oc14, od14, .func (PySem.W.fnOf "_law_row" "_law_row" (defArgs s_l_row) (defBody s_l_row) (defScope s_l_row) .none kV14 dc14 pm14 an14 cd14 ct14), sl14⟩)
    (c14 : PySem.W.codeIn K cd14 "_law_row" = true) (k14 : PySem.W.keepIn K (.ref f14) = true)
    (a15 : PySem.W.nsIn K mainGlobals "_law_can" = some (some (.ref f15))) (l15 : K.lookup f15 = some ⟨oc15, od15, .func (PySem.W.fnOf "_law_can" "_law_can" (defArgs s_l_can) (defBody s_l_can) (defScope s_l_can) .none kV15 dc15 pm15 an15 cd15 ct15), sl15⟩)
    (c15 : PySem.W.codeIn K cd15 "_law_can" = true) (k15 : PySem.W.keepIn K (.ref f15) = true)
    (a16 : PySem.W.nsIn K mainGlobals "_law_evened" = some (some (.ref f16))) (l16 : K.lookup f16 = some ⟨oc16, od16, .func (PySem.W.fnOf "_law_evened" "_law_evened" (defArgs s_l_evened) (defBody s_l_evened) (defScope s_l_evened) .none kV16 dc16 pm16 an16 cd16 ct16), sl16⟩)
    (c16 : PySem.W.codeIn K cd16 "_law_evened" = true) (k16 : PySem.W.keepIn K (.ref f16) = true)
    (a17 : PySem.W.nsIn K mainGlobals "law" = some (some (.ref f17))) (l17 : K.lookup f17 = some ⟨oc17, od17, .func (PySem.W.fnOf "law" "law" (defArgs s_law) (defBody s_law) (defScope s_law) .none kV17 dc17 pm17 an17 cd17 ct17), sl17⟩)
    (c17 : PySem.W.codeIn K cd17 "law" = true) (k17 : PySem.W.keepIn K (.ref f17) = true)
    (m_MOST : PySem.W.nsIn K mainGlobals "MOST" = some (some (.int 12 t_MOST)))
    (m_GREATEST : PySem.W.nsIn K mainGlobals "GREATEST" = some (some (.int 1000000 t_GREATEST)))
    (z0 : PySem.W.nsIn K mainGlobals "isinstance" = some none) (z1 : PySem.W.nsIn K mainGlobals "int" = some none) (z2 : PySem.W.nsIn K mainGlobals "bool" = some none) (z3 : PySem.W.nsIn K mainGlobals "list" = some none) (z4 : PySem.W.nsIn K mainGlobals "len" = some none) (z5 : PySem.W.nsIn K mainGlobals "all" = some none) (z6 : PySem.W.nsIn K mainGlobals "range" = some none) (z7 : PySem.W.nsIn K mainGlobals "enumerate" = some none) (z8 : PySem.W.nsIn K mainGlobals "tuple" = some none) (z9 : PySem.W.nsIn K mainGlobals "min" = some none) (z10 : PySem.W.nsIn K mainGlobals "max" = some none) (z11 : PySem.W.nsIn K mainGlobals "sorted" = some none) (z12 : PySem.W.nsIn K mainGlobals "sum" = some none) (z13 : PySem.W.nsIn K mainGlobals "set" = some none) (z14 : PySem.W.nsIn K mainGlobals "any" = some none) :
    ∃ fd : FuncData, (∀ (s : Shared) (v : Value), BindsTo s fd ⟨[v], []⟩ [("_law_script", v)]) ∧ ∀ base : Heap, K.In base → base.Ns mainGlobals mg → FnOk l.prog w K mg base CX0 5 fa fd ["_law_script"] (sp_law K) := by
  have e := hfa.symm.trans (PySem.W.mg_of X G a17)
  cases e
  have F_is_whole := fun_mk (st := s_is_whole) l0 c0 k0
  have F_check_row := fun_mk (st := s_check_row) l1 c1 k1
  have F_evenings_of := fun_mk (st := s_evenings_of) l2 c2 k2
  have F_evenings := fun_mk (st := s_evenings) l3 c3 k3
  have F_settled := fun_mk (st := s_settled) l4 c4 k4
  have F_behind := fun_mk (st := s_behind) l5 c5 k5
  have F_check_evening := fun_mk (st := s_check_evening) l6 c6 k6
  have F_evened := fun_mk (st := s_evened) l7 c7 k7
  have F_fall := fun_mk (st := s_fall) l8 c8 k8
  have F_l_cell_at := fun_mk (st := s_l_cell_at) l9 c9 k9
  have F_l_draw := fun_mk (st := s_l_draw) l10 c10 k10
  have F_l_value := fun_mk (st := s_l_value) l11 c11 k11
  have F_l_whole := fun_mk (st := s_l_whole) l12 c12 k12
  have F_l_says := fun_mk (st := s_l_says) l13 c13 k13
  have F_l_row := fun_mk (st := s_l_row) l14 c14 k14
  have F_l_can := fun_mk (st := s_l_can) l15 c15 k15
  have F_l_evened := fun_mk (st := s_l_evened) l16 c16 k16
  have F_law := fun_mk (st := s_law) l17 c17 k17
  have b_is_whole := F_is_whole.binds (ps := ["thing"]) fun _ _ _ _ _ _ us hl => match us, hl with | [_], _ => rfl
  have b_check_row := F_check_row.binds (ps := ["row", "most", "greatest"]) fun _ _ _ _ _ _ us hl => match us, hl with | [_, _, _], _ => rfl
  have b_evenings_of := F_evenings_of.binds (ps := ["row"]) fun _ _ _ _ _ _ us hl => match us, hl with | [_], _ => rfl
  have b_evenings := F_evenings.binds (ps := ["row"]) fun _ _ _ _ _ _ us hl => match us, hl with | [_], _ => rfl
  have b_settled := F_settled.binds (ps := ["row"]) fun _ _ _ _ _ _ us hl => match us, hl with | [_], _ => rfl
  have b_behind := F_behind.binds (ps := ["row", "evening"]) fun _ _ _ _ _ _ us hl => match us, hl with | [_, _], _ => rfl
  have b_check_evening := F_check_evening.binds (ps := ["row", "evening"]) fun _ _ _ _ _ _ us hl => match us, hl with | [_, _], _ => rfl
  have b_evened := F_evened.binds (ps := ["row", "evening"]) fun _ _ _ _ _ _ us hl => match us, hl with | [_, _], _ => rfl
  have b_fall := F_fall.binds (ps := ["row", "evening"]) fun _ _ _ _ _ _ us hl => match us, hl with | [_, _], _ => rfl
  have b_l_cell_at := F_l_cell_at.binds (ps := ["_law_script", "_law_k"]) fun _ _ _ _ _ _ us hl => match us, hl with | [_, _], _ => rfl
  have b_l_draw := F_l_draw.binds (ps := ["_law_cell", "_law_k", "_law_many"]) fun _ _ _ _ _ _ us hl => match us, hl with | [_, _, _], _ => rfl
  have b_l_value := F_l_value.binds (ps := ["_law_cell", "_law_turn"]) fun _ _ _ _ _ _ us hl => match us, hl with | [_, _], _ => rfl
  have b_l_whole := F_l_whole.binds (ps := ["_law_number"]) fun _ _ _ _ _ _ us hl => match us, hl with | [_], _ => rfl
  have b_l_says := F_l_says.binds (ps := ["_law_said", "_law_due"]) fun _ _ _ _ _ _ us hl => match us, hl with | [_, _], _ => rfl
  have b_l_row := F_l_row.binds (ps := ["_law_script", "_law_by", "_law_most", "_law_greatest"]) fun _ _ _ _ _ _ us hl => match us, hl with | [_, _, _, _], _ => rfl
  have b_l_can := F_l_can.binds (ps := ["_law_row_here"]) fun _ _ _ _ _ _ us hl => match us, hl with | [_], _ => rfl
  have b_l_evened := F_l_evened.binds (ps := ["_law_row_here", "_law_pair"]) fun _ _ _ _ _ _ us hl => match us, hl with | [_, _], _ => rfl
  have g_MOST := PySem.W.mg_of X G m_MOST
  have g_GREATEST := PySem.W.mg_of X G m_GREATEST
  have B : Blt mg := ⟨PySem.W.mg_none_of X G z0, PySem.W.mg_none_of X G z1, PySem.W.mg_none_of X G z2, PySem.W.mg_none_of X G z3, PySem.W.mg_none_of X G z4, PySem.W.mg_none_of X G z5, PySem.W.mg_none_of X G z6, PySem.W.mg_none_of X G z7, PySem.W.mg_none_of X G z8, PySem.W.mg_none_of X G z9, PySem.W.mg_none_of X G z10, PySem.W.mg_none_of X G z11, PySem.W.mg_none_of X G z12, PySem.W.mg_none_of X G z13, PySem.W.mg_none_of X G z14⟩
  refine ⟨PySem.W.fnOf "law" "law" (defArgs s_law) (defBody s_law) (defScope s_law) .none kV17 dc17 pm17 an17 cd17 ct17, fun s v => .of_eq rfl, fun base _ _ => ?_⟩
  have c_is_whole : Cal CX0 l.prog w K mg base "is_whole" ["thing"] 1 (sp_is_whole K) := ⟨_, _, ok_is_whole F_is_whole B, PySem.W.mg_of X G a0, F_is_whole.kp, b_is_whole⟩
  have c_check_row : Cal CX0 l.prog w K mg base "check_row" ["row", "most", "greatest"] 2 (sp_check_row) := ⟨_, _, ok_check_row F_check_row B c_is_whole, PySem.W.mg_of X G a1, F_check_row.kp, b_check_row⟩
  have c_evenings_of : Cal CX0 l.prog w K mg base "evenings_of" ["row"] 1 (sp_evenings_of K) := ⟨_, _, ok_evenings_of F_evenings_of B, PySem.W.mg_of X G a2, F_evenings_of.kp, b_evenings_of⟩
  have c_evenings : Cal CX0 l.prog w K mg base "evenings" ["row"] 3 (sp_evenings) := ⟨_, _, ok_evenings F_evenings c_check_row c_evenings_of g_MOST g_GREATEST, PySem.W.mg_of X G a3, F_evenings.kp, b_evenings⟩
  have c_settled : Cal CX0 l.prog w K mg base "settled" ["row"] 3 (sp_settled) := ⟨_, _, ok_settled F_settled c_check_row c_evenings_of g_MOST g_GREATEST, PySem.W.mg_of X G a4, F_settled.kp, b_settled⟩
  have c_behind : Cal CX0 l.prog w K mg base "behind" ["row", "evening"] 1 (sp_behind K) := ⟨_, _, ok_behind F_behind B, PySem.W.mg_of X G a5, F_behind.kp, b_behind⟩
  have c_check_evening : Cal CX0 l.prog w K mg base "check_evening" ["row", "evening"] 3 (sp_check_evening) := ⟨_, _, ok_check_evening F_check_evening B c_is_whole c_check_row c_evenings_of g_MOST g_GREATEST, PySem.W.mg_of X G a6, F_check_evening.kp, b_check_evening⟩
  have c_evened : Cal CX0 l.prog w K mg base "evened" ["row", "evening"] 4 (sp_evened) := ⟨_, _, ok_evened F_evened c_check_evening c_behind, PySem.W.mg_of X G a7, F_evened.kp, b_evened⟩
  have c_fall : Cal CX0 l.prog w K mg base "fall" ["row", "evening"] 4 (sp_fall) := ⟨_, _, ok_fall F_fall c_check_evening, PySem.W.mg_of X G a8, F_fall.kp, b_fall⟩
  have c_l_cell_at : Cal CX0 l.prog w K mg base "_law_cell_at" ["_law_script", "_law_k"] 1 (sp_cell_at K) := ⟨_, _, ok_cell_at F_l_cell_at B, PySem.W.mg_of X G a9, F_l_cell_at.kp, b_l_cell_at⟩
  have c_l_draw : Cal CX0 l.prog w K mg base "_law_draw" ["_law_cell", "_law_k", "_law_many"] 1 (sp_draw) := ⟨_, _, ok_draw F_l_draw, PySem.W.mg_of X G a10, F_l_draw.kp, b_l_draw⟩
  have c_l_value : Cal CX0 l.prog w K mg base "_law_value" ["_law_cell", "_law_turn"] 2 (sp_value) := ⟨_, _, ok_value F_l_value c_l_draw, PySem.W.mg_of X G a11, F_l_value.kp, b_l_value⟩
  have c_l_whole : Cal CX0 l.prog w K mg base "_law_whole" ["_law_number"] 1 (sp_l_whole K) := ⟨_, _, ok_l_whole F_l_whole B, PySem.W.mg_of X G a12, F_l_whole.kp, b_l_whole⟩
  have c_l_says : Cal CX0 l.prog w K mg base "_law_says" ["_law_said", "_law_due"] 1 (sp_says) := ⟨_, _, ok_says F_l_says B, PySem.W.mg_of X G a13, F_l_says.kp, b_l_says⟩
  have c_l_row : Cal CX0 l.prog w K mg base "_law_row" ["_law_script", "_law_by", "_law_most", "_law_greatest"] 3 (sp_row K) := ⟨_, _, ok_row F_l_row B c_l_cell_at c_l_value, PySem.W.mg_of X G a14, F_l_row.kp, b_l_row⟩
  have c_l_can : Cal CX0 l.prog w K mg base "_law_can" ["_law_row_here"] 1 (sp_can K) := ⟨_, _, ok_can F_l_can B, PySem.W.mg_of X G a15, F_l_can.kp, b_l_can⟩
  have c_l_evened : Cal CX0 l.prog w K mg base "_law_evened" ["_law_row_here", "_law_pair"] 1 (sp_l_evened K) := ⟨_, _, ok_l_evened F_l_evened B, PySem.W.mg_of X G a16, F_l_evened.kp, b_l_evened⟩
  exact ok_law F_law B c_l_row c_l_can c_evenings c_settled c_l_says c_evened c_fall c_l_evened c_l_whole
end EG
open PySem PySem.W PyProof.Rows
set_option maxHeartbeats 0 in
theorem PySem.Challenge.cw_evenglasses_k01_rows_holds : PySem.Challenge.rw_evenglasses_k01_rows.Holds := by
  w_on; o_law; k_head; (case hw => w_witness2)
  k_fill
  refine L2.walk_ofB (l := PySem.Challenge.rw_evenglasses_k01_rows) (n := 63) (k := 5) (x := "_law_script") (CX := fun _ => L2.CX0) (sp := fun w => EG.sp_law _) rfl (by decide) rfl ⟨rfl, by decide, by decide⟩ (fun w h Y => PySem.W.kIn_of Y) ?F (fun _ _ a ns hl hb _ hS => ⟨a, ns, rfl, hS, hl, hb, fun _ => rfl⟩) (fun _ _ _ _ _ h => h)
  case F =>
    intro w mg fa h KX G hmg
    refine' EG.all_mk KX G hmg ?a0 ?l0 ?c0 ?k0 ?a1 ?l1 ?c1 ?k1 ?a2 ?l2 ?c2 ?k2 ?a3 ?l3 ?c3 ?k3 ?a4 ?l4 ?c4 ?k4 ?a5 ?l5 ?c5 ?k5 ?a6 ?l6 ?c6 ?k6 ?a7 ?l7 ?c7 ?k7 ?a8 ?l8 ?c8 ?k8 ?a9 ?l9 ?c9 ?k9 ?a10 ?l10 ?c10 ?k10 ?a11 ?l11 ?c11 ?k11 ?a12 ?l12 ?c12 ?k12 ?a13 ?l13 ?c13 ?k13 ?a14 ?l14 ?c14 ?k14 ?a15 ?l15 ?c15 ?k15 ?a16 ?l16 ?c16 ?k16 ?a17 ?l17 ?c17 ?k17 ?m_MOST ?m_GREATEST ?z0 ?z1 ?z2 ?z3 ?z4 ?z5 ?z6 ?z7 ?z8 ?z9 ?z10 ?z11 ?z12 ?z13 ?z14
    (case a0 => k_is); (case l0 => k_is); (case c0 => k_is); (case k0 => k_is); (case a1 => k_is); (case l1 => k_is)
    (case c1 => k_is); (case k1 => k_is); (case a2 => k_is); (case l2 => k_is); (case c2 => k_is); (case k2 => k_is)
    (case a3 => k_is); (case l3 => k_is); (case c3 => k_is); (case k3 => k_is); (case a4 => k_is); (case l4 => k_is)
    (case c4 => k_is); (case k4 => k_is); (case a5 => k_is); (case l5 => k_is); (case c5 => k_is); (case k5 => k_is)
    (case a6 => k_is); (case l6 => k_is); (case c6 => k_is); (case k6 => k_is); (case a7 => k_is); (case l7 => k_is)
    (case c7 => k_is); (case k7 => k_is); (case a8 => k_is); (case l8 => k_is); (case c8 => k_is); (case k8 => k_is)
    (case a9 => k_is); (case l9 => k_is); (case c9 => k_is); (case k9 => k_is); (case a10 => k_is); (case l10 => k_is)
    (case c10 => k_is); (case k10 => k_is); (case a11 => k_is); (case l11 => k_is); (case c11 => k_is); (case k11 => k_is)
    (case a12 => k_is); (case l12 => k_is); (case c12 => k_is); (case k12 => k_is); (case a13 => k_is); (case l13 => k_is)
    (case c13 => k_is); (case k13 => k_is); (case a14 => k_is); (case l14 => k_is); (case c14 => k_is); (case k14 => k_is)
    (case a15 => k_is); (case l15 => k_is); (case c15 => k_is); (case k15 => k_is); (case a16 => k_is); (case l16 => k_is)
    (case c16 => k_is); (case k16 => k_is); (case a17 => k_is); (case l17 => k_is); (case c17 => k_is); (case k17 => k_is)
    (case m_MOST => k_is); (case m_GREATEST => k_is); (case z0 => k_is); (case z1 => k_is); (case z2 => k_is); (case z3 => k_is)
    (case z4 => k_is); (case z5 => k_is); (case z6 => k_is); (case z7 => k_is); (case z8 => k_is); (case z9 => k_is)
    (case z10 => k_is); (case z11 => k_is); (case z12 => k_is); (case z13 => k_is); (case z14 => k_is)
